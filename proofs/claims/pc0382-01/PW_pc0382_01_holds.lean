import PyProof.Rows.All
import Wide.All
import OpenK.AllK
import Wide.FinOn
import PySem.Challenge.RW_pc0382_01
open PySem PySem.W PyProof.Rows
set_option Elab.async false
set_option linter.all false
section
open PySem PySem.W PyProof.Rows
set_option Elab.async false
set_option autoImplicit false
set_option tactic.hygienic false
namespace Lm

theorem nO {α : Type} {a : α} {C : Prop} (h : (none : Option α) = some a) : C := by cases h
theorem nO' {α : Type} {a : α} {C : Prop} (h : some a = none) : C := by cases h
theorem bF {C : Prop} (h : false = true) : C := by cases h
theorem bT {C : Prop} (h : true = false) : C := by cases h

inductive Loc where
  | i (n : Nat) | d (n : Nat) | l (n : Nat)
  deriving DecidableEq
noncomputable def Loc.idx : Loc → Nat
  | .i n => n | .d n => n | .l n => n

inductive PV where
  | none
  | bool (b : Bool)
  | int (i : Int)
  | str (k : Str)
  | bytes (b : Array UInt8)
  | tup (l : List PV)
  | lst (l : List PV)
  | inst (c : Str) (ks : List Str) (vs : List PV)
  | dcs (ks : List Str) (vs : List PV)
  | obj (p : Loc)

noncomputable abbrev NK := (Int × Array UInt8) × (Int × Array UInt8)
noncomputable def nkPV (k : NK) : PV := .tup [.tup [.int k.1.1, .bytes k.1.2], .tup [.int k.2.1, .bytes k.2.2]]

inductive AO where
  | inst (c : Str) (ks : List Str) (vs : List PV)
  | lst (l : List PV)
  | di (es : List (Int × PV))
  | ds (es : List (Str × PV))
  | dn (es : List (NK × PV))

structure St where
  H : Loc → Option AO
  V : Loc → Nat
  n : Nat

structure Cfg where
  M : Addr → Prop
  ρ : Loc → Option (Addr × Addr)

noncomputable abbrev tupObj (vs : Array Value) (n : Nat) : Obj := { cls := .type "tuple", data := .seq vs n }
noncomputable abbrev lstObj (vs : Array Value) (n : Nat) : Obj := { cls := .type "list", data := .seq vs n }

/-- what stands for the whole call: the program, the world, the part of the top that is written out, the heap of the call's start -/
structure Cx where
  prog : Program
  w : World
  K : Frag
  h₀ : Heap
  ca : Str → Addr

/-- the entries of an object's dict -/
inductive EsAt : List DictEntry → List (Str × Value) → Prop
  | nil : EsAt [] []
  | cons {hs : Int} {k : Str} {t : Tok} {v : Value} {es : List DictEntry} {r : List (Str × Value)} : EsAt es r → EsAt (⟨hs, .str k t, v⟩ :: es) ((k, v) :: r)
theorem EsAt.any {es : List DictEntry} {r : List (Str × Value)} (h : EsAt es r) : es.any (·.refKey) = false := by
  induction h with
  | nil => rfl
  | cons _ ih => exact ih
theorem EsAt.find {x : Str} {es : List DictEntry} {r : List (Str × Value)} (h : EsAt es r) : (es.find? (·.key.isStr x)).map (·.val) = r.lookup x := by
  induction h with
  | nil => rfl
  | @cons hs k t v es r _ ih =>
    rw [List.find?_cons, List.lookup_cons, show (Value.str k t).isStr x = (x == k) from BEq.comm]
    cases x == k with
    | true => rfl
    | false => exact ih
theorem EsAt.getL {x : Str} {es : List DictEntry} {r : List (Str × Value)} (h : EsAt es r) : PySem.W.getL x es = some (r.lookup x) ∧ es.any (·.refKey) = false := by
  refine ⟨?_, h.any⟩
  unfold PySem.W.getL
  rw [h.any, ← h.find (x := x)]
  cases es.find? (·.key.isStr x) <;> rfl
theorem EsAt.len {es : List DictEntry} {r : List (Str × Value)} (h : EsAt es r) : es.length = r.length := by
  induction h with
  | nil => rfl
  | cons _ ih => exact congrArg Nat.succ ih
noncomputable def putR (x : Str) (v : Value) : List (Str × Value) → List (Str × Value)
  | [] => [(x, v)]
  | e :: r => if e.1 = x then (e.1, v) :: r else e :: putR x v r
theorem EsAt.put {x : Str} {hs : Int} {t : Tok} {v : Value} {es : List DictEntry} {r : List (Str × Value)} (h : EsAt es r) : EsAt (putL x hs (.str x t) v es) (putR x v r) := by
  induction h with
  | nil => exact .cons .nil
  | @cons hs' k t' v' es r h ih =>
    show EsAt (if (k == x) = true then _ else _) (if k = x then _ else _)
    by_cases hk : k = x
    · rw [if_pos (beq_iff_eq.mpr hk), if_pos hk]; exact .cons h
    · rw [if_neg fun e => hk (beq_iff_eq.mp e), if_neg hk]; exact .cons ih

variable (X : Cx)

inductive TokV (f : Tok → Value) : Value → Prop
  | mk (t : Tok) : TokV f (f t)
inductive SeqV (c : Cfg) (h : Heap) (f : Array Value → Nat → Obj) (P : List Value → Prop) : Value → Prop
  | mk (a : Addr) (vs : Array Value) (n : Nat) : h.get? a = some (f vs n) → ¬ c.M a → P vs.toList → SeqV c h f P (.ref a)
inductive InsV (c : Cfg) (h : Heap) (C : Addr) (ks : List Str) (P : List Value → Prop) : Value → Prop
  | mk (a d : Addr) (es : List DictEntry) (n : Nat) (ws : List Value) : h.get? a = some (instObj C d) → h.get? d = some (dictOf es n) → ¬ c.M a → ¬ c.M d → es.length ≤ 1000 → EsAt es (List.zip ks ws) → P ws → InsV c h C ks P (.ref a)
inductive DcsV (c : Cfg) (h : Heap) (ks : List Str) (P : List Value → Prop) : Value → Prop
  | mk (a : Addr) (ws : List Value) : (a == sysModules) = false → h.DictOf (strKind X.prog X.w) a (List.zip ks ws) → ¬ c.M a → P ws → DcsV c h ks P (.ref a)
inductive ObjV (c : Cfg) (p : Loc) : Value → Prop
  | mk (a d : Addr) : c.ρ p = some (a, d) → ObjV c p (.ref a)
inductive ConsV (P : Value → Prop) (Q : List Value → Prop) : List Value → Prop
  | mk (v : Value) (r : List Value) : P v → Q r → ConsV P Q (v :: r)
mutual
noncomputable def IsV (c : Cfg) (h : Heap) : PV → Value → Prop
  | .none, v => v = .none
  | .bool b, v => v = .bool b
  | .int i, v => TokV (.int i) v
  | .str k, v => TokV (.str k) v
  | .bytes b, v => TokV (.bytes b) v
  | .tup l, v => SeqV c h tupObj (IsVs c h l) v
  | .lst l, v => SeqV c h lstObj (IsVs c h l) v
  | .inst C ks vs, v => InsV c h (X.ca C) ks (IsVs c h vs) v
  | .dcs ks vs, v => DcsV X c h ks (IsVs c h vs) v
  | .obj p, v => ObjV c p v
noncomputable def IsVs (c : Cfg) (h : Heap) : List PV → List Value → Prop
  | [], vs => vs = []
  | p :: ps, vs => ConsV (IsV c h p) (IsVs c h ps) vs
end

/-- the data and the numbers of c at h are those of c' at h' -/
structure Pres (c : Cfg) (h : Heap) (c' : Cfg) (h' : Heap) : Prop where
  data : ∀ a o, h.get? a = some o → ¬ c.M a → h'.get? a = some o ∧ ¬ c'.M a
  rho : ∀ p x, c.ρ p = some x → c'.ρ p = some x

theorem Pres.dictOf {c c' : Cfg} {h h' : Heap} (P : Pres c h c' h') {K : Type} [DecidableEq K] {knd : KeyKind X.prog X.w K} {a : Addr} {kvs : List (K × Value)} (hd : h.DictOf knd a kvs) (hn : ¬ c.M a) : h'.DictOf knd a kvs ∧ ¬ c'.M a := by
  obtain ⟨o, es, ep, ho, r⟩ := hd
  exact ⟨⟨o, es, ep, (P.data a o ho hn).1, r⟩, (P.data a o ho hn).2⟩

variable {X}
section
variable {c : Cfg} {h : Heap} {v : Value} {vs : List Value} {p : PV} {ps : List PV}
section
variable {C : Value → Prop}
@[elab_as_elim] theorem TokV.elim {f : Tok → Value} (e : TokV f v) (k : ∀ t, C (f t)) : C v := by cases e; exact k _
@[elab_as_elim] theorem SeqV.elim {f : Array Value → Nat → Obj} {P : List Value → Prop} (e : SeqV c h f P v) (k : ∀ a vs n, h.get? a = some (f vs n) → ¬ c.M a → P vs.toList → C (.ref a)) : C v := by
  cases e with | mk a vs n h1 h2 h3 => exact k a vs n h1 h2 h3
@[elab_as_elim] theorem IsV.noneE (e : IsV X c h .none v) (k : C .none) : C v := by cases (show v = .none from e); exact k
@[elab_as_elim] theorem IsV.boolE {b : Bool} (e : IsV X c h (.bool b) v) (k : C (.bool b)) : C v := by cases (show v = .bool b from e); exact k
@[elab_as_elim] theorem IsV.intE {i : Int} (e : IsV X c h (.int i) v) (k : ∀ t, C (.int i t)) : C v := TokV.elim (show TokV (.int i) v from e) k
@[elab_as_elim] theorem IsV.strE {i : Str} (e : IsV X c h (.str i) v) (k : ∀ t, C (.str i t)) : C v := TokV.elim (show TokV (.str i) v from e) k
@[elab_as_elim] theorem IsV.bytesE {i : Array UInt8} (e : IsV X c h (.bytes i) v) (k : ∀ t, C (.bytes i t)) : C v := TokV.elim (show TokV (.bytes i) v from e) k
@[elab_as_elim] theorem IsV.tupE (e : IsV X c h (.tup ps) v) (k : ∀ a vs n, h.get? a = some (tupObj vs n) → ¬ c.M a → IsVs X c h ps vs.toList → C (.ref a)) : C v := SeqV.elim (show SeqV c h tupObj (IsVs X c h ps) v from e) k
@[elab_as_elim] theorem IsV.lstE (e : IsV X c h (.lst ps) v) (k : ∀ a vs n, h.get? a = some (lstObj vs n) → ¬ c.M a → IsVs X c h ps vs.toList → C (.ref a)) : C v := SeqV.elim (show SeqV c h lstObj (IsVs X c h ps) v from e) k
@[elab_as_elim] theorem IsV.instE {D : Str} {ks : List Str} (e : IsV X c h (.inst D ks ps) v) (k : ∀ a d es n ws, h.get? a = some (instObj (X.ca D) d) → h.get? d = some (dictOf es n) → ¬ c.M a → ¬ c.M d → es.length ≤ 1000 → EsAt es (List.zip ks ws) → IsVs X c h ps ws → C (.ref a)) : C v := by
  cases (show InsV c h (X.ca D) ks (IsVs X c h ps) v from e) with | mk a d es n ws h1 h2 h3 h4 h5 h6 h7 => exact k a d es n ws h1 h2 h3 h4 h5 h6 h7
@[elab_as_elim] theorem IsV.dcsE {ks : List Str} (e : IsV X c h (.dcs ks ps) v) (k : ∀ a ws, (a == sysModules) = false → h.DictOf (strKind X.prog X.w) a (List.zip ks ws) → ¬ c.M a → IsVs X c h ps ws → C (.ref a)) : C v := by
  cases (show DcsV X c h ks (IsVs X c h ps) v from e) with | mk a ws h1 h2 h3 h4 => exact k a ws h1 h2 h3 h4
@[elab_as_elim] theorem IsV.objE {l : Loc} (e : IsV X c h (.obj l) v) (k : ∀ a d, c.ρ l = some (a, d) → C (.ref a)) : C v := by
  cases (show ObjV c l v from e) with | mk a d h1 => exact k a d h1
end
section
variable {C : List Value → Prop}
@[elab_as_elim] theorem IsVs.nilE (e : IsVs X c h [] vs) (k : C []) : C vs := by cases (show vs = [] from e); exact k
@[elab_as_elim] theorem IsVs.consE (e : IsVs X c h (p :: ps) vs) (k : ∀ v r, IsV X c h p v → IsVs X c h ps r → C (v :: r)) : C vs := by
  cases (show ConsV (IsV X c h p) (IsVs X c h ps) vs from e) with | mk v r h1 h2 => exact k v r h1 h2
end
theorem IsVs.consP (e : IsVs X c h (p :: ps) (v :: vs)) : IsV X c h p v ∧ IsVs X c h ps vs := by
  cases (show ConsV (IsV X c h p) (IsVs X c h ps) (v :: vs) from e) with | mk _ _ h1 h2 => exact ⟨h1, h2⟩
theorem IsVs.nil : IsVs X c h [] [] := rfl
theorem IsVs.cons (a : IsV X c h p v) (b : IsVs X c h ps vs) : IsVs X c h (p :: ps) (v :: vs) := .mk v vs a b
theorem IsV.mono {c' : Cfg} {h' : Heap} (P : Pres c h c' h') (e : IsV X c h p v) : IsV X c' h' p v :=
  PV.rec (motive_1 := fun p => ∀ {v}, IsV X c h p v → IsV X c' h' p v) (motive_2 := fun ps => ∀ {vs}, IsVs X c h ps vs → IsVs X c' h' ps vs)
    (fun e => e) (fun _ _ e => e) (fun _ _ e => e) (fun _ _ e => e) (fun _ _ e => e)
    (fun _ ih _ e => e.tupE fun a vs n h1 h2 h3 => .mk a vs n (P.data a _ h1 h2).1 (P.data a _ h1 h2).2 (ih h3))
    (fun _ ih _ e => e.lstE fun a vs n h1 h2 h3 => .mk a vs n (P.data a _ h1 h2).1 (P.data a _ h1 h2).2 (ih h3))
    (fun _ _ _ ih _ e => e.instE fun a d es n ws h1 h2 h3 h4 h5 h6 h7 => .mk a d es n ws (P.data a _ h1 h3).1 (P.data d _ h2 h4).1 (P.data a _ h1 h3).2 (P.data d _ h2 h4).2 h5 h6 (ih h7))
    (fun _ _ ih _ e => e.dcsE fun a ws h1 h2 h3 h4 => .mk a ws h1 (P.dictOf X h2 h3).1 (P.dictOf X h2 h3).2 (ih h4))
    (fun _ _ e => e.objE fun a d h1 => .mk a d (P.rho _ _ h1))
    (fun e => e) (fun _ _ i1 i2 _ e => e.consE fun _ _ e1 e2 => .cons (i1 e1) (i2 e2)) p e
theorem IsVs.mono {c' : Cfg} {h' : Heap} (P : Pres c h c' h') (e : IsVs X c h ps vs) : IsVs X c' h' ps vs := by
  induction ps generalizing vs with
  | nil => exact e
  | cons p ps ih => exact e.consE fun _ _ e1 e2 => .cons (e1.mono P) (ih e2)
theorem IsVs.length (e : IsVs X c h ps vs) : vs.length = ps.length := by
  induction ps generalizing vs with
  | nil => exact e.nilE rfl
  | cons p ps ih => exact e.consE fun _ _ _ e => congrArg Nat.succ (ih e)
theorem IsVs.get {k : Nat} (e : IsVs X c h ps vs) (q : ps[k]? = some p) : ∃ v, vs[k]? = some v ∧ IsV X c h p v := by
  induction ps generalizing vs k with
  | nil => exact nO q
  | cons p' ps ih =>
    refine e.consE fun v r e1 e2 => ?_
    cases k with
    | zero => exact ⟨v, rfl, Option.some.inj q ▸ e1⟩
    | succ k => exact ih (k := k) (vs := r) e2 q
theorem IsVs.append {qs : List PV} {ws : List Value} (e : IsVs X c h ps vs) (f : IsVs X c h qs ws) : IsVs X c h (ps ++ qs) (vs ++ ws) := by
  induction ps generalizing vs with
  | nil => exact e.nilE f
  | cons p ps ih => exact e.consE fun _ _ e1 e2 => .cons e1 (ih e2)
theorem IsVs.take (m : Nat) (e : IsVs X c h ps vs) : IsVs X c h (ps.take m) (vs.take m) := by
  induction ps generalizing vs m with
  | nil => rw [List.take_nil]; exact e.nilE (by rw [List.take_nil]; exact .nil)
  | cons p ps ih =>
    refine e.consE fun v r e1 e2 => ?_
    cases m with
    | zero => exact .nil
    | succ m => exact .cons e1 (ih m e2)
theorem IsVs.drop (m : Nat) (e : IsVs X c h ps vs) : IsVs X c h (ps.drop m) (vs.drop m) := by
  induction ps generalizing vs m with
  | nil => rw [List.drop_nil]; exact e.nilE (by rw [List.drop_nil]; exact .nil)
  | cons p ps ih =>
    cases m with
    | zero => exact e
    | succ m => exact e.consE fun _ _ _ e2 => ih m e2
theorem IsV.handed (e : IsV X c h p v) : handedIn v = true := by
  cases p with
  | none => exact e.noneE rfl
  | bool => exact e.boolE rfl
  | int => exact e.intE fun _ => rfl
  | str => exact e.strE fun _ => rfl
  | bytes => exact e.bytesE fun _ => rfl
  | tup => exact e.tupE fun _ _ _ _ _ _ => rfl
  | lst => exact e.lstE fun _ _ _ _ _ _ => rfl
  | inst => exact e.instE fun _ _ _ _ _ _ _ _ _ _ _ _ => rfl
  | dcs => exact e.dcsE fun _ _ _ _ _ _ => rfl
  | obj => exact e.objE fun _ _ _ => rfl
end
end Lm
end
section
open PySem PySem.W PyProof.Rows
set_option Elab.async false
set_option autoImplicit false
set_option linter.unusedVariables false
set_option tactic.hygienic false
namespace Lm

-- options, one after the other
theorem oB {α β : Type} {x : Option α} {f : α → Option β} {b : β} {C : Prop} (h : x.bind f = some b) (k : ∀ a, x = some a → f a = some b → C) : C := by
  cases x with
  | none => exact nO h
  | some a => exact k a rfl h
@[elab_as_elim] theorem oM {α β : Type} {x : Option α} {f : α → β} {b : β} {C : β → Prop} (h : x.map f = some b) (k : ∀ a, x = some a → C (f a)) : C b := by
  cases x with
  | none => exact nO h
  | some a => exact Option.some.inj h ▸ k a rfl
theorem oI {α : Type} {c : Prop} [Decidable c] {x : Option α} {b : α} {C : Prop} (h : (if c then x else none) = some b) (k : c → x = some b → C) : C := by
  by_cases hc : c
  · rw [if_pos hc] at h; exact k hc h
  · rw [if_neg hc] at h; exact nO h
@[elab_as_elim] theorem oS {α : Type} {x b : α} {C : α → Prop} (h : some x = some b) (k : C x) : C b := Option.some.inj h ▸ k
@[elab_as_elim] theorem oIs {α : Type} {c : Prop} [Decidable c] {x b : α} {C : α → Prop} (h : (if c then some x else none) = some b) (k : c → C x) : C b := oI h fun hc h => oS h (k hc)
theorem bqD {α : Type} [BEq α] [LawfulBEq α] [DecidableEq α] (a b : α) : (a == b) = decide (a = b) := by rw [Bool.eq_iff_iff, beq_iff_eq, decide_eq_true_eq]

-- what a value is
noncomputable def asI : PV → Option Int
  | .int i => some i
  | _ => none
theorem asI_eq {p : PV} {i : Int} (h : asI p = some i) : p = .int i := by
  cases p with
  | int => exact congrArg PV.int (Option.some.inj h)
  | _ => exact nO h
noncomputable def asB : PV → Option (Array UInt8)
  | .bytes b => some b
  | _ => none
theorem asB_eq {p : PV} {b : Array UInt8} (h : asB p = some b) : p = .bytes b := by
  cases p with
  | bytes => exact congrArg PV.bytes (Option.some.inj h)
  | _ => exact nO h
noncomputable def asS : PV → Option Str
  | .str k => some k
  | _ => none
theorem asS_eq {p : PV} {k : Str} (h : asS p = some k) : p = .str k := by
  cases p with
  | str => exact congrArg PV.str (Option.some.inj h)
  | _ => exact nO h
noncomputable def asT : PV → Option (List PV)
  | .tup l => some l
  | _ => none
theorem asT_eq {p : PV} {l : List PV} (h : asT p = some l) : p = .tup l := by
  cases p with
  | tup => exact congrArg PV.tup (Option.some.inj h)
  | _ => exact nO h
noncomputable def asL : PV → Option (List PV)
  | .lst l => some l
  | _ => none
theorem asL_eq {p : PV} {l : List PV} (h : asL p = some l) : p = .lst l := by
  cases p with
  | lst => exact congrArg PV.lst (Option.some.inj h)
  | _ => exact nO h
noncomputable def asN : PV → Option Unit
  | .none => some ()
  | _ => none
theorem asN_eq {p : PV} {u : Unit} (h : asN p = some u) : p = .none := by
  cases p with
  | none => rfl
  | _ => exact nO h

mutual
noncomputable def peq : PV → PV → Option Bool
  | .none, q => (asN q).map fun _ => true
  | .bool _, _ => none
  | .int a, q => (asI q).map fun b => decide (a = b)
  | .str a, q => (asS q).map fun b => decide (a = b)
  | .bytes a, q => (asB q).map fun b => decide (a = b)
  | .tup l, q => (asT q).bind (peqs l)
  | .lst l, q => (asL q).bind (peqs l)
  | .inst .., _ => none
  | .dcs .., _ => none
  | .obj _, _ => none
noncomputable def peqs : List PV → List PV → Option Bool
  | [], m => some m.isEmpty
  | x :: l, m => match m with
    | [] => some false
    | y :: m => (peq x y).bind fun b => (peqs l m).map fun c => b && c
end
mutual
noncomputable def dep : PV → Nat
  | .tup l => deps l + 1
  | .lst l => deps l + 1
  | _ => 0
noncomputable def deps : List PV → Nat
  | [] => 0
  | x :: l => max (dep x) (deps l)
end

section
variable {q : PV} {b : Bool} {C : PV → Bool → Prop}
@[elab_as_elim] theorem peqN (e : peq .none q = some b) (k : C .none true) : C q b := oM (show (asN q).map _ = some b from e) fun j hj => by rw [asN_eq hj]; exact k
@[elab_as_elim] theorem peqI {i : Int} (e : peq (.int i) q = some b) (k : ∀ j, C (.int j) (decide (i = j))) : C q b := oM (show (asI q).map _ = some b from e) fun j hj => by rw [asI_eq hj]; exact k j
@[elab_as_elim] theorem peqS {i : Str} (e : peq (.str i) q = some b) (k : ∀ j, C (.str j) (decide (i = j))) : C q b := oM (show (asS q).map _ = some b from e) fun j hj => by rw [asS_eq hj]; exact k j
@[elab_as_elim] theorem peqB {i : Array UInt8} (e : peq (.bytes i) q = some b) (k : ∀ j, C (.bytes j) (decide (i = j))) : C q b := oM (show (asB q).map _ = some b from e) fun j hj => by rw [asB_eq hj]; exact k j
@[elab_as_elim] theorem peqT {l : List PV} (e : peq (.tup l) q = some b) (k : ∀ m, peqs l m = some b → C (.tup m) b) : C q b := oB (show (asT q).bind _ = some b from e) fun j hj h => by rw [asT_eq hj]; exact k j h
@[elab_as_elim] theorem peqL {l : List PV} (e : peq (.lst l) q = some b) (k : ∀ m, peqs l m = some b → C (.lst m) b) : C q b := oB (show (asL q).bind _ = some b from e) fun j hj h => by rw [asL_eq hj]; exact k j h
end
section
variable {m l : List PV} {b : Bool} {x : PV} {C : List PV → Bool → Prop}
@[elab_as_elim] theorem peqs0 (e : peqs [] m = some b) (k0 : C [] true) (k1 : ∀ y m, C (y :: m) false) : C m b := by
  rw [← Option.some.inj e]
  cases m with
  | nil => exact k0
  | cons => exact k1 _ _
@[elab_as_elim] theorem peqsC (e : peqs (x :: l) m = some b) (k0 : C [] false) (k1 : ∀ y m b b', peq x y = some b → peqs l m = some b' → C (y :: m) (b && b')) : C m b := by
  cases m with
  | nil => rw [← Option.some.inj e]; exact k0
  | cons y m => exact oB (show (peq x y).bind _ = some b from e) fun b h1 e => oM e fun b' h2 => k1 _ _ _ _ h1 h2
end

section
variable {X : Cx} {c : Cfg} {h : Heap}
theorem IsV.intU {i j : Int} {v : Value} (f : IsV X c h (.int i) v) (g : IsV X c h (.int j) v) : i = j := by
  revert g; exact f.intE fun t g => IsV.intE (C := fun v => v = .int i t → i = j) g (fun t' e => by cases e; rfl) rfl
theorem IsV.strU {i j : Str} {v : Value} (f : IsV X c h (.str i) v) (g : IsV X c h (.str j) v) : i = j := by
  revert g; exact f.strE fun t g => IsV.strE (C := fun v => v = .str i t → i = j) g (fun t' e => by cases e; rfl) rfl
theorem IsV.bytesU {i j : Array UInt8} {v : Value} (f : IsV X c h (.bytes i) v) (g : IsV X c h (.bytes j) v) : i = j := by
  revert g; exact f.bytesE fun t g => IsV.bytesE (C := fun v => v = .bytes i t → i = j) g (fun t' e => by cases e; rfl) rfl
theorem SeqV.uniq {F : Array Value → Nat → Obj} (hF : ∀ vs us n m, F vs n = F us m → vs = us) {P Q : List Value → Prop} {v : Value} (f : SeqV c h F P v) (g : SeqV c h F Q v) : ∃ vs, P vs ∧ Q vs := by
  revert g; exact f.elim fun a vs n h1 _ p g => SeqV.elim (C := fun v => v = .ref a → _) g (fun a' us n' h2 _ q e => by
    cases e; rw [h1] at h2; exact ⟨_, p, hF _ _ _ _ (Option.some.inj h2) ▸ q⟩) rfl
theorem IsV.tupU {l m : List PV} {v : Value} (f : IsV X c h (.tup l) v) (g : IsV X c h (.tup m) v) : ∃ vs, IsVs X c h l vs ∧ IsVs X c h m vs := SeqV.uniq (F := tupObj) (fun _ _ _ _ e => by cases e; rfl) f g
theorem IsV.lstU {l m : List PV} {v : Value} (f : IsV X c h (.lst l) v) (g : IsV X c h (.lst m) v) : ∃ vs, IsVs X c h l vs ∧ IsVs X c h m vs := SeqV.uniq (F := lstObj) (fun _ _ _ _ e => by cases e; rfl) f g
theorem IsVs.consU {p q : PV} {l m : List PV} {vs : List Value} (f : IsVs X c h (p :: l) vs) (g : IsVs X c h (q :: m) vs) : ∃ v r, IsV X c h p v ∧ IsV X c h q v ∧ IsVs X c h l r ∧ IsVs X c h m r := by
  revert g; exact f.consE fun v r f1 f2 g => IsVs.consE (C := fun vs => vs = v :: r → _) g (fun v' r' g1 g2 e => by cases e; exact ⟨_, _, f1, g1, f2, g2⟩) rfl
noncomputable def U1 (X : Cx) (c : Cfg) (h : Heap) (p : PV) : Prop := ∀ {q : PV} {b : Bool} {v : Value}, peq p q = some b → IsV X c h p v → IsV X c h q v → b = true
noncomputable def U2 (X : Cx) (c : Cfg) (h : Heap) (l : List PV) : Prop := ∀ {m : List PV} {b : Bool} {vs : List Value}, peqs l m = some b → IsVs X c h l vs → IsVs X c h m vs → b = true
theorem U2.nil : U2 X c h [] := fun {m} {b} {vs} e f g => peqs0 (C := fun m b => IsVs X c h m vs → b = true) e (fun _ => rfl) (fun _ _ g => by rw [show vs = [] from f] at g; cases g.length) g
theorem U2.cons {p : PV} {l : List PV} (i : U1 X c h p) (j : U2 X c h l) : U2 X c h (p :: l) := fun {m} {b} {vs} e f g =>
  peqsC (C := fun m b => IsVs X c h m vs → b = true) e (fun g => by rw [show vs = [] from g] at f; cases f.length)
    (fun y m b1 b2 e1 e2 g => by
      obtain ⟨v, r, f1, g1, f2, g2⟩ := f.consU g
      rw [i e1 f1 g1, j e2 f2 g2]; rfl) g
theorem peq_uniq {p : PV} : U1 X c h p :=
  PV.rec (motive_1 := U1 X c h) (motive_2 := U2 X c h)
    (fun {_} {b} {_} e _ _ => peqN (C := fun _ b => b = true) e rfl) (fun _ {_ _ _} e _ _ => nO e)
    (fun _ {_ _ v} e f g => peqI (C := fun q b => IsV X c h q v → b = true) e (fun j g => decide_eq_true (f.intU g)) g)
    (fun _ {_ _ v} e f g => peqS (C := fun q b => IsV X c h q v → b = true) e (fun j g => decide_eq_true (f.strU g)) g)
    (fun _ {_ _ v} e f g => peqB (C := fun q b => IsV X c h q v → b = true) e (fun j g => decide_eq_true (f.bytesU g)) g)
    (fun l ih {_ b v} e f g => peqT (C := fun q b => IsV X c h q v → b = true) e (fun m e g => (f.tupU g).elim fun vs k => ih e k.1 k.2) g)
    (fun l ih {_ b v} e f g => peqL (C := fun q b => IsV X c h q v → b = true) e (fun m e g => (f.lstU g).elim fun vs k => ih e k.1 k.2) g)
    (fun _ _ _ _ {_ _ _} e _ _ => nO e) (fun _ _ _ {_ _ _} e _ _ => nO e) (fun _ {_ _ _} e _ _ => nO e) U2.nil (fun _ _ i j => U2.cons i j) p
theorem peqs_uniq {l : List PV} : U2 X c h l := by
  induction l with
  | nil => exact U2.nil
  | cons p l ih => exact U2.cons peq_uniq ih

theorem eqBytes (A : Around) (s : Shared) (a b : Array UInt8) (t u : Tok) : SeqAt.EqAt A s (.bytes a t) (.bytes b u) (decide (a = b)) := fun prog w E Q hq => by
  unfold eqBool
  refine wpAny_holding ?_
  refine wpAny_ite_split (fun hab => ?_) (fun _ => ?_)
  · cases eq_of_beq hab
    rw [decide_eq_true rfl] at hq
    exact wpAny_bind (wpAny_rule (wpAny_pure hq))
  · refine wpAny_bind ?_
    refine (eq_bytes (Q := fun v s' => wpAny (model prog w) A (truthOfDropped v) Q E s') ?_ : wpAny (model prog w) A (compareOp .Eq (.bytes a t) (.bytes b u)) _ E s)
    refine wpAny_truthy_bool ?_
    rw [bqD, show decide (a.toList = b.toList) = decide (a = b) from decide_eq_decide.mpr Array.toList_inj]; exact hq
theorem isTup {s : Shared} {a : Addr} {vs : Array Value} {n : Nat} (e : s.heap.get? a = some (tupObj vs n)) : s.heap.IsTuple a vs := ⟨_, e, rfl, n, rfl⟩
theorem isLst {s : Shared} {a : Addr} {vs : Array Value} {n : Nat} (e : s.heap.get? a = some (lstObj vs n)) : s.heap.IsList a vs := ⟨_, e, rfl, n, rfl⟩

open SeqAt
/-- the items of two, one by one -/
inductive Each (A : Around) (s : Shared) (vs us : List Value) : Bool → Prop
  | mk (k : Nat → Bool) : (∀ j v u, vs[j]? = some v → us[j]? = some u → EqAt A s v u (k j)) → Each A s vs us ((List.range (min vs.length us.length)).all k && vs.length == us.length)
section
variable {A : Around} {s : Shared} {b : Bool} {a a' : Addr} {vs us : Array Value} {n n' : Nat}
theorem get_toList {vs : Array Value} {j : Nat} (h : j < vs.size) : vs.toList[j]? = some vs[j] := by rw [Array.getElem?_toList, Array.getElem?_eq_getElem h]
theorem rcT (h1 : s.heap.get? a = some (tupObj vs n)) (h2 : s.heap.get? a' = some (tupObj us n')) (hu : A.units < cLine) (e : Each A.in1 s vs.toList us.toList b) : RcAt A s (.ref a) (.ref a') b := by
  obtain ⟨k, hk⟩ := e
  exact RcAt.tuples (isTup h1) (isTup h2) hu fun j j1 j2 => hk j _ _ (get_toList j1) (get_toList j2)
theorem rnT (h1 : s.heap.get? a = some (tupObj vs n)) (h2 : s.heap.get? a' = some (tupObj us n')) (hu : A.units < cLine) (e : Each A.in1 s vs.toList us.toList b) : RcNeAt A s (.ref a) (.ref a') (!b) := by
  obtain ⟨k, hk⟩ := e
  exact RcNeAt.tuples (isTup h1) (isTup h2) hu fun j j1 j2 => hk j _ _ (get_toList j1) (get_toList j2)
theorem Each.lists (e : Each A s vs.toList us.toList b) : (vs.size = us.size ∧ ∃ k, (List.range vs.size).all k = b ∧ ∀ j (j1 : j < vs.size) (j2 : j < us.size), EqAt A s vs[j] us[j] (k j)) ∨ ((vs.size != us.size) = true ∧ b = false) := by
  obtain ⟨k, hk⟩ := e
  rw [Array.length_toList, Array.length_toList]
  by_cases hsz : vs.size = us.size
  · refine .inl ⟨hsz, k, ?_, fun j j1 j2 => hk j _ _ (get_toList j1) (get_toList j2)⟩
    rw [← hsz, Nat.min_self, beq_self_eq_true, Bool.and_true]
  · have : (vs.size == us.size) = false := beq_eq_false_iff_ne.mpr hsz
    rw [bne, this, Bool.and_false]; exact .inr ⟨rfl, rfl⟩
theorem rcL (h1 : s.heap.get? a = some (lstObj vs n)) (h2 : s.heap.get? a' = some (lstObj us n')) (hu : A.units < cLine) (e : Each A.in1 s vs.toList us.toList b) : RcAt A s (.ref a) (.ref a') b := by
  rcases e.lists with ⟨hsz, k, rfl, hk⟩ | ⟨hsz, rfl⟩
  · exact RcAt.lists (isLst h1) (isLst h2) hsz hu hk
  · exact RcAt.lists_lengths (isLst h1) (isLst h2) hsz hu
theorem rnL (h1 : s.heap.get? a = some (lstObj vs n)) (h2 : s.heap.get? a' = some (lstObj us n')) (hu : A.units < cLine) (e : Each A.in1 s vs.toList us.toList b) : RcNeAt A s (.ref a) (.ref a') (!b) := by
  rcases e.lists with ⟨hsz, k, rfl, hk⟩ | ⟨hsz, rfl⟩
  · exact RcNeAt.lists (isLst h1) (isLst h2) hsz hu hk
  · exact RcNeAt.lists_lengths (isLst h1) (isLst h2) hsz hu
end
theorem dep_in {A : Around} {d : Nat} (h : A.units + (d + 1) < cLine) : A.units < cLine ∧ A.in1.units + d < cLine := by
  refine ⟨Nat.lt_of_le_of_lt (Nat.le_add_right _ _) h, ?_⟩
  show A.units + 1 + d < cLine
  rw [Nat.add_assoc, Nat.add_comm 1 d]; exact h
theorem max_in {A : Around} {d e : Nat} (h : A.units + max d e < cLine) : A.units + d < cLine ∧ A.units + e < cLine :=
  ⟨Nat.lt_of_le_of_lt (Nat.add_le_add_left (Nat.le_max_left d e) _) h, Nat.lt_of_le_of_lt (Nat.add_le_add_left (Nat.le_max_right d e) _) h⟩
theorem Each.cons {A : Around} {s : Shared} {v u : Value} {vs us : List Value} {b b' : Bool} (h : EqAt A s v u b) (e : Each A s vs us b') : Each A s (v :: vs) (u :: us) (b && b') := by
  obtain ⟨k, hk⟩ := e
  have := Each.mk (A := A) (s := s) (vs := v :: vs) (us := u :: us) (fun j => match j with | 0 => b | j + 1 => k j) fun j x y h1 h2 => by
    cases j with
    | zero => cases h1; cases h2; exact h
    | succ j => exact hk j x y h1 h2
  rw [List.length_cons, List.length_cons, Nat.add_min_add_right, List.range_succ_eq_map, List.all_cons, List.all_map, bqD, show decide (vs.length + 1 = us.length + 1) = decide (vs.length = us.length) from decide_eq_decide.mpr Nat.succ_inj, ← bqD, Bool.and_assoc] at this
  exact this
noncomputable def A1 (X : Cx) (c : Cfg) (p : PV) : Prop := ∀ {q : PV} {b : Bool} {v u : Value} (A : Around) (s : Shared), peq p q = some b → IsV X c s.heap p v → IsV X c s.heap q u → A.units + dep p < cLine → EqAt A s v u b
noncomputable def A2 (X : Cx) (c : Cfg) (l : List PV) : Prop := ∀ {m : List PV} {b : Bool} {vs us : List Value} (A : Around) (s : Shared), peqs l m = some b → IsVs X c s.heap l vs → IsVs X c s.heap m us → A.units + deps l < cLine → Each A s vs us b
theorem A2.nil : A2 X c [] := fun {m b vs us} A s e f g _ => by
  rw [show vs = [] from f]
  refine peqs0 (C := fun m b => IsVs X c s.heap m us → Each A s [] us b) e (fun g => ?_) (fun _ _ g => ?_) g
  · rw [show us = [] from g]; exact .mk (fun _ => true) fun j v u h => nO h
  · exact g.consE fun _ _ _ _ => .mk (fun _ => true) fun j v u h => nO h
theorem A2.cons {p : PV} {l : List PV} (i : A1 X c p) (j : A2 X c l) : A2 X c (p :: l) := fun {m b vs us} A s e f g hu => f.consE fun v r f1 f2 =>
  peqsC (C := fun m b => IsVs X c s.heap m us → Each A s (v :: r) us b) e (fun g => by rw [show us = [] from g]; exact .mk (fun _ => true) fun j v u _ h => nO h)
    (fun y m b1 b2 e1 e2 g => g.consE fun u r' g1 g2 => .cons (i A s e1 f1 g1 (max_in hu).1) (j A s e2 f2 g2 (max_in hu).2)) g
theorem peq_at {p : PV} : A1 X c p :=
  PV.rec (motive_1 := A1 X c) (motive_2 := A2 X c)
    (fun {_ b v u} A s e f g _ => by
      rw [peq_uniq e f (show IsV X c s.heap _ v from peqN (C := fun q _ => IsV X c s.heap q v) e f), show v = u from peqN (C := fun q _ => IsV X c s.heap q u → v = u) e (fun g => f.noneE g.symm) g]; exact EqAt.same _)
    (fun _ {_ _ _ _} A s e _ _ _ => nO e)
    (fun i {_ _ _ u} A s e f g _ => f.intE fun t => peqI (C := fun q b => IsV X c s.heap q u → EqAt A s (.int i t) u b) e (fun j g => g.intE fun t' => by rw [← bqD]; exact EqAt.int_int (A := A) (s := s) i t j t') g)
    (fun i {_ _ _ u} A s e f g _ => f.strE fun t => peqS (C := fun q b => IsV X c s.heap q u → EqAt A s (.str i t) u b) e (fun j g => g.strE fun t' => by rw [← bqD]; exact EqAt.str_str (A := A) (s := s) i t j t') g)
    (fun i {_ _ _ u} A s e f g _ => f.bytesE fun t => peqB (C := fun q b => IsV X c s.heap q u → EqAt A s (.bytes i t) u b) e (fun j g => g.bytesE fun t' => eqBytes A s _ _ _ _) g)
    (fun l ih {q b v u} A s e f g hu => by
      by_cases hv : v = u
      · cases hv; rw [peq_uniq e f g]; exact EqAt.same _
      · refine peqT (C := fun q b => IsV X c s.heap q u → EqAt A s v u b) e (fun m e g => ?_) g
        revert hv
        exact f.tupE fun a vs n h1 _ f => g.tupE fun a' us n' h2 _ g hv => EqAt.of_refs (fun z => hv (congrArg Value.ref z)) (rcT h1 h2 (dep_in hu).1 (ih A.in1 s e f g (dep_in hu).2)))
    (fun l ih {q b v u} A s e f g hu => by
      by_cases hv : v = u
      · cases hv; rw [peq_uniq e f g]; exact EqAt.same _
      · refine peqL (C := fun q b => IsV X c s.heap q u → EqAt A s v u b) e (fun m e g => ?_) g
        revert hv
        exact f.lstE fun a vs n h1 _ f => g.lstE fun a' us n' h2 _ g hv => EqAt.of_refs (fun z => hv (congrArg Value.ref z)) (rcL h1 h2 (dep_in hu).1 (ih A.in1 s e f g (dep_in hu).2)))
    (fun _ _ _ _ {_ _ _ _} A s e _ _ _ => nO e) (fun _ _ _ {_ _ _ _} A s e _ _ _ => nO e) (fun _ {_ _ _ _} A s e _ _ _ => nO e) A2.nil (fun _ _ i j => A2.cons i j) p
theorem peqs_at {l : List PV} : A2 X c l := by
  induction l with
  | nil => exact A2.nil
  | cons p l ih => exact A2.cons peq_at ih
end
end Lm
end
section
open PySem PySem.W PyProof.Rows
set_option Elab.async false
set_option autoImplicit false
set_option linter.unusedVariables false
set_option tactic.hygienic false
namespace Lm
section
variable {prog : Program} {w : World}

/-- the hash of v at heaps that keep h: k, with d draws, where u units are free -/
noncomputable def HashAt (prog : Program) (w : World) (h : Heap) (u : Nat) (v : Value) (k : Int) (d : Nat) : Prop :=
  ∀ (A : Around) (E : Value → Shared → Prop) (s : Shared) (Q : Int → Shared → Prop), s.heap = h → A.units + u < cLine → Q k { s with toks := s.toks + d } → wpAny (model prog w) A (pyHash v) Q E s

theorem HashAt.int {h : Heap} (u : Nat) (i : Int) (t : Tok) : HashAt prog w h u (.int i t) (hashInt i) 1 := fun A E s Q _ _ hq => wpAny_pyHash_int hq
noncomputable def hashBy (w : World) (b : Array UInt8) : Int := (bytesKind default w).hash b.toList
theorem HashAt.bytes {h : Heap} (u : Nat) (b : Array UInt8) (t : Tok) : HashAt prog w h u (.bytes b t) (hashBy w b) 1 := fun A E s Q _ _ hq =>
  (bytesKind prog w).pyHash (k := b.toList) (by simp [bytesKind, isBytes]) hq
noncomputable def hashTup (ks : List Int) : Int := reduceHash (Builtin.Tuple.tupleHashOf ks)

theorem hash_red {A : Around} {E : Value → Shared → Prop} {s : Shared} {n : Int} {Q : Int → Shared → Prop} (h : Q (reduceHash n) s) : wpAny (model prog w) A (pyHashByItsType.reduced n) Q E s := by
  unfold pyHashByItsType.reduced
  unfold reduceHash at h
  split at h
  · rw [if_pos (by assumption)]; exact wpAny_pure h
  · rw [if_neg (by assumption)]; exact wpAny_bind (wpAny_rule (wpAny_pure h))
theorem HashAt.tup {h : Heap} {u : Nat} {a : Addr} {v1 v2 : Value} {n : Nat} {k1 k2 : Int} {d1 d2 : Nat} (ho : h.get? a = some (tupObj #[v1, v2] n)) (i1 : HashAt prog w h u v1 k1 d1) (i2 : HashAt prog w h u v2 k2 d2) : HashAt prog w h (u + 1) (.ref a) (hashTup [k1, k2]) (d1 + d2 + 1) := by
  intro A E s Q e hu h'
  subst e
  have hT : s.TypeIs (.ref a) "tuple" := ⟨_, ho, rfl⟩
  unfold pyHash pyHashByItsType
  refine wpAny_bind (wpAny_cRoomFor_or (.inr (dep_in hu).1) (wpAny_bind (wpAny_specialOf hT F.slot_tuple_hash.lookup ?_)))
  refine wpAny_ite_split (fun hab => by rw [beq_builtin_none] at hab; exact bF hab) fun _ => ?_
  refine wpAny_bind (wpAny_specialOf hT F.slot_tuple_hash.lookup ?_)
  refine wpAny_ite_split (fun hab => bF hab) fun _ => ?_
  refine wpAny_bind (wpAny_callSpecialIfBoundUnlessNone?_slot hT F.slot_tuple_hash (wpAny_call_entry F.slot_tuple_hash hT F.entry_tuple_hash ?_ (F.args_tuple_hash_1 _)))
  refine wpAny_bind (m := Builtin.Tuple.tupleItemsOf (.ref a)) (wpAny_tupleItemsOf ho rfl (wpAny_bind ?_))
  rw [← Array.forIn_toList]
  have hu1 := (dep_in hu).2
  show wpAny _ _ (forIn [v1, v2] _ _) _ _ s
  rw [List.forIn_cons]
  refine wpAny_bind (wpAny_bind (i1 _ _ _ _ rfl hu1 (wpAny_pure ?_)))
  dsimp only
  rw [List.forIn_cons]
  refine wpAny_bind (wpAny_bind (i2 _ _ _ _ rfl hu1 (wpAny_pure (wpAny_pure ?_))))
  show wpAny _ _ (retInt (Builtin.Tuple.tupleHashOf [k1, k2])) _ _ _
  refine wpAny_ret_mkInt (hash_red ?_)
  show Q _ { s with toks := s.toks + d1 + d2 + 1 }
  rw [Nat.add_assoc s.toks]; exact h'

/-- eqIsQuiet of a tree of tuples over values -/
inductive Quiet (h : Heap) : Nat → Value → Prop
  | val {n : Nat} {v : Value} : carriedByValue v = true → Quiet h n v
  | tup {n : Nat} {a : Addr} {vs : Array Value} {k : Nat} : h.get? a = some (tupObj vs k) → (∀ v ∈ vs.toList, Quiet h n v) → Quiet h (n + 1) (.ref a)
theorem Quiet.wp {A : Around} {E : Value → Shared → Prop} {h : Heap} : ∀ {n : Nat} {v : Value} {s : Shared} {Q : Bool → Shared → Prop}, Quiet h n v → s.heap = h → Q true s → wpAny (model prog w) A (eqIsQuiet n v) Q E s := by
  intro n v s Q hq
  induction hq generalizing s Q with
  | val hv => intro _ h'; rw [eqIsQuiet_byValue _ hv]; exact wpAny_pure h'
  | @tup n a vs k ho hr ih =>
    intro e h'
    subst e
    have hT : s.TypeIs (.ref a) "tuple" := ⟨_, ho, rfl⟩
    unfold eqIsQuiet
    refine wpAny_bind (wpAny_specialOf hT F.slot_tuple_eq.lookup ?_)
    refine wpAny_bind (m := isInstance (.ref a) (.type "tuple")) (wpAny_isInstance hT isSubtype_tuple_tuple ?_)
    refine wpAny_ite_split (fun hab => bF hab) fun _ => ?_
    refine wpAny_bind (wpAny_seqItems ho rfl (wpAny_bind ?_))
    show wpAny _ _ (forIn vs _ _) _ _ s
    rw [← Array.forIn_toList]
    refine wpAny_forIn_list _ (fun rest r s' => r.1 = none ∧ s' = s ∧ ∀ v ∈ rest, v ∈ vs.toList) _ ?_ ?_ _ _ ⟨rfl, rfl, fun _ h => h⟩
    · rintro v rest r s' ⟨_, rfl, hall⟩
      refine wpAny_bind (ih v (hall v List.mem_cons_self) rfl ?_)
      exact wpAny_ite_split (fun hab => bF hab) fun _ => wpAny_pure ⟨rfl, rfl, fun u hu' => hall u (List.mem_cons_of_mem _ hu')⟩
    · rintro ⟨_, r2⟩ s' ⟨rfl, rfl, _⟩
      exact wpAny_pure h'

inductive IsIB (h : Heap) (x : Int × Array UInt8) (a : Addr) : Prop
  | mk (n : Nat) (t u : Tok) : h.get? a = some (tupObj #[.int x.1 t, .bytes x.2 u] n) → IsIB h x a
inductive IsNK (h : Heap) (k : NK) (a : Addr) : Prop
  | mk (n : Nat) (a1 a2 : Addr) : h.get? a = some (tupObj #[.ref a1, .ref a2] n) → IsIB h k.1 a1 → IsIB h k.2 a2 → IsNK h k a
noncomputable def hashIB (w : World) (x : Int × Array UInt8) : Int := hashTup [hashInt x.1, hashBy w x.2]
noncomputable def hashNK (w : World) (k : NK) : Int := hashTup [hashIB w k.1, hashIB w k.2]

section
variable {X : Cx} {c : Cfg} {h : Heap} {v u : Value} {vs : List Value}
theorem IsIB.isV {x : Int × Array UInt8} {a : Addr} (e : IsIB h x a) : IsV X ⟨fun _ => False, fun _ => none⟩ h (.tup [.int x.1, .bytes x.2]) (.ref a) := by
  obtain ⟨n, t, u, e⟩ := e
  exact .mk a _ n e (fun x => x) (.cons (.mk t) (.cons (.mk u) .nil))
theorem IsNK.isV {k : NK} {a : Addr} (e : IsNK h k a) : IsV X ⟨fun _ => False, fun _ => none⟩ h (nkPV k) (.ref a) := by
  obtain ⟨n, a1, a2, e, e1, e2⟩ := e
  exact .mk a _ n e (fun x => x) (.cons e1.isV (.cons e2.isV .nil))
theorem two_vs {p q : PV} {vs : Array Value} (e : IsVs X c h [p, q] vs.toList) : ∃ v u, vs = #[v, u] ∧ IsV X c h p v ∧ IsV X c h q u := by
  have : ∀ l, IsVs X c h [p, q] l → ∃ v u, l = [v, u] ∧ IsV X c h p v ∧ IsV X c h q u := fun l e => e.consE fun v r e1 e => e.consE fun u r e2 e => e.nilE ⟨_, _, rfl, e1, e2⟩
  obtain ⟨v, u, e, e1, e2⟩ := this _ e
  exact ⟨v, u, Array.ext' e, e1, e2⟩
theorem IsV.isIB {x : Int × Array UInt8} (e : IsV X c h (.tup [.int x.1, .bytes x.2]) v) : ∃ a, v = .ref a ∧ IsIB h x a := e.tupE fun a vs n h1 _ e => by
  obtain ⟨v, u, rfl, e1, e2⟩ := two_vs e
  exact ⟨a, rfl, IsV.intE (C := fun v => h.get? a = some (tupObj #[v, u] n) → _) e1 (fun t => IsV.bytesE (C := fun u => h.get? a = some (tupObj #[_, u] n) → _) e2 fun u h1 => ⟨n, t, u, h1⟩) h1⟩
theorem IsV.isNK {k : NK} (e : IsV X c h (nkPV k) v) : ∃ a, v = .ref a ∧ IsNK h k a := IsV.tupE (show IsV X c h (.tup [.tup [.int k.1.1, .bytes k.1.2], .tup [.int k.2.1, .bytes k.2.2]]) v from e) fun a vs n h1 _ e => by
  obtain ⟨v, u, rfl, e1, e2⟩ := two_vs e
  obtain ⟨_, rfl, f1⟩ := IsV.isIB (x := k.1) e1
  obtain ⟨_, rfl, f2⟩ := IsV.isIB (x := k.2) e2
  exact ⟨a, rfl, n, _, _, h1, f1, f2⟩
end

theorem peq_nk (k k' : NK) : peq (nkPV k) (nkPV k') = some (decide (k = k')) := by
  obtain ⟨⟨i, b⟩, ⟨j, d⟩⟩ := k
  obtain ⟨⟨i', b'⟩, ⟨j', d'⟩⟩ := k'
  show some ((decide (i = i') && (decide (b = b') && true)) && ((decide (j = j') && (decide (d = d') && true)) && true)) = _
  simp only [Prod.mk.injEq, Bool.and_true, Bool.decide_and]
theorem IsIB.inj {h : Heap} {a : Addr} {x y : Int × Array UInt8} (e : IsIB h x a) (f : IsIB h y a) : x = y := by
  obtain ⟨i, b⟩ := x
  obtain ⟨j, d⟩ := y
  obtain ⟨n, t, u, e⟩ := e
  obtain ⟨n', t', u', f⟩ := f
  cases Option.some.inj (e.symm.trans f)
  rfl
section
variable {h h' : Heap} {d : Addr} {o : Obj} {es : Array DictEntry} {ep : Nat}
theorem tup_keeps {b : Addr} {vs : Array Value} {m : Nat} (ho : h.get? d = some o) (hd : o.data = .dict es ep) (hs : Heap.SameBut d h h') (e : h.get? b = some (tupObj vs m)) : h'.get? b = some (tupObj vs m) :=
  (hs.2 _ fun z => by rw [z, ho] at e; rw [Option.some.inj e] at hd; exact nomatch hd).trans e
theorem IsIB.keeps {x : Int × Array UInt8} {a : Addr} (ho : h.get? d = some o) (hd : o.data = .dict es ep) (hs : Heap.SameBut d h h') (e : IsIB h x a) : IsIB h' x a := by
  obtain ⟨n, t, u, e⟩ := e
  exact ⟨n, t, u, tup_keeps ho hd hs e⟩
end
theorem IsIB.hash {h : Heap} {x : Int × Array UInt8} {a : Addr} (e : IsIB h x a) : HashAt prog w h 1 (.ref a) (hashIB w x) 3 := by
  obtain ⟨n, t, u, e⟩ := e
  exact HashAt.tup (u := 0) e (.int 0 _ _) (.bytes 0 _ _)
theorem IsIB.quiet {h : Heap} {x : Int × Array UInt8} {a : Addr} {n : Nat} (e : IsIB h x a) : Quiet h (n + 1) (.ref a) := by
  obtain ⟨_, t, u, e⟩ := e
  exact .tup e (List.forall_mem_cons.mpr ⟨.val rfl, List.forall_mem_cons.mpr ⟨.val rfl, fun v hv => nomatch hv⟩⟩)

noncomputable def nkKind (prog : Program) (w : World) : HeapKind prog w NK where
  is := IsNK
  hash := hashNK w
  draws := fun _ => 7
  room := fun A => A.units + 2 < cLine
  inj := by
    rintro h a ⟨x, x'⟩ ⟨y, y'⟩ ⟨n, a1, a2, e0, e1, e2⟩ ⟨m, c1, c2, f0, f1, f2⟩
    cases Option.some.inj (e0.symm.trans f0)
    exact Prod.ext (e1.inj f1) (e2.inj f2)
  keeps := by
    rintro h h' k a d o es ep ⟨n, a1, a2, e0, e1, e2⟩ ho hd hs
    exact ⟨n, a1, a2, tup_keeps ho hd hs e0, e1.keeps ho hd hs, e2.keeps ho hd hs⟩
  pyHash := by
    intro A E s k a Q hu hk hq
    obtain ⟨n, a1, a2, e0, e1, e2⟩ := hk
    exact HashAt.tup (u := 1) e0 e1.hash e2.hash A E s Q rfl hu hq
  eqBool := by
    intro A E s x y a b Q hu hx hy hq
    have X : Cx := ⟨default, w, [], s.heap, fun _ => 0⟩
    exact peq_at (X := X) A s (peq_nk x y) hx.isV hy.isV hu prog w E Q hq
  quiet := by
    intro A E s k a Q hk hq
    obtain ⟨n, a1, a2, e0, e1, e2⟩ := hk
    exact Quiet.wp (h := s.heap) (.tup e0 (List.forall_mem_cons.mpr ⟨e1.quiet, List.forall_mem_cons.mpr ⟨e2.quiet, fun v hv => nomatch hv⟩⟩)) rfl hq
end
end Lm
end
section
open PySem PySem.W PyProof.Rows
set_option Elab.async false
set_option autoImplicit false
set_option linter.unusedVariables false
set_option tactic.hygienic false
namespace Lm

/-- values one by one, under equal keys -/
noncomputable def VMap (X : Cx) (c : Cfg) (h : Heap) {K : Type} (es : List (K × PV)) (kvs : List (K × Value)) : Prop := es.map (·.1) = kvs.map (·.1) ∧ IsVs X c h (es.map (·.2)) (kvs.map (·.2))

noncomputable def ORep (X : Cx) (c : Cfg) (h : Heap) : AO → Addr → Addr → Prop
  | .inst C ks vs, a, d => ∃ es n ws, h.get? a = some (instObj (X.ca C) d) ∧ ¬ c.M a ∧ h.get? d = some (dictOf es n) ∧ es.length ≤ 500 ∧ EsAt es (List.zip ks ws) ∧ IsVs X c h vs ws
  | .lst l, a, d => d = a ∧ ∃ vs n, h.get? a = some (lstObj vs n) ∧ IsVs X c h l vs.toList
  | .di es, a, d => d = a ∧ ∃ kvs, h.DictOf (intKind X.prog X.w) a kvs ∧ VMap X c h es kvs
  | .ds es, a, d => d = a ∧ ∃ kvs, h.DictOf (strKind X.prog X.w) a kvs ∧ VMap X c h es kvs
  | .dn es, a, d => d = a ∧ ∃ xs : List (NK × Addr × Value), h.DictOfH (nkKind X.prog X.w) a xs ∧ (∀ x ∈ xs, IsV X c h (nkPV x.1) (.ref x.2.1)) ∧ es.map (·.1) = xs.map (·.1) ∧ IsVs X c h (es.map (·.2)) (xs.map (·.2.2))

noncomputable def Wr (c : Cfg) (σ : St) (a : Addr) : Prop := ∃ p o x, σ.H p = some o ∧ c.ρ p = some (x, a)

noncomputable def Live (h : Heap) (a : Addr) : Prop := ∃ o, h.get? a = some o
theorem Live.no {h : Heap} {a : Addr} (l : Live h a) (e : h.get? a = none) : False := by obtain ⟨o, q⟩ := l; rw [e] at q; cases q
theorem none_or_live (h : Heap) (a : Addr) : h.get? a = none ∨ Live h a := by
  cases e : h.get? a with
  | none => exact .inl rfl
  | some o => exact .inr ⟨o, e⟩

structure Rep (X : Cx) (c : Cfg) (σ : St) (h : Heap) : Prop where
  base : ∀ a o, X.h₀.get? a = some o → h.get? a = some o
  low : ∀ a, c.M a → X.h₀.get? a = none
  up : ∀ a, c.M a → Live h a
  obj : ∀ p o, σ.H p = some o → ∃ a d, c.ρ p = some (a, d) ∧ c.M d ∧ ORep X c h o a d
  inj : ∀ p q o o' a b d, σ.H p = some o → σ.H q = some o' → c.ρ p = some (a, d) → c.ρ q = some (b, d) → p = q
  nx : ∀ p x, c.ρ p = some x → p.idx < σ.n

structure Ext (c : Cfg) (σ : St) (h : Heap) (c' : Cfg) (σ' : St) (h' : Heap) (X : Addr → Prop) : Prop where
  live : ∀ a, Live h a → Live h' a
  keep : ∀ a o, h.get? a = some o → ¬ Wr c σ a → ¬ X a → h'.get? a = some o
  ver : ∀ p o x a, σ.H p = some o → c.ρ p = some (x, a) → σ'.V p = σ.V p → σ'.H p = some o ∧ ∀ b, h.get? a = some b → h'.get? a = some b
  vle : ∀ p, σ.V p ≤ σ'.V p
  m1 : ∀ a, c'.M a → c.M a ∨ h.get? a = none
  m2 : ∀ a, c.M a → ¬ Wr c σ a → c'.M a
  wr : ∀ a, Wr c' σ' a → Wr c σ a ∨ h.get? a = none
  rho : ∀ p x, c.ρ p = some x → c'.ρ p = some x

theorem Ext.refl {c : Cfg} {σ : St} {h : Heap} {Z : Addr → Prop} : Ext c σ h c σ h Z :=
  ⟨fun _ e => e, fun _ _ e _ _ => e, fun _ _ _ _ e _ _ => ⟨e, fun _ e => e⟩, fun _ => Nat.le_refl _, fun _ e => .inl e, fun _ e _ => e, fun _ e => .inl e, fun _ _ e => e⟩

theorem snd_eq {α β : Type} {a a' : α} {b b' : β} (e : some (a, b) = some (a', b')) : b = b' := by cases e; rfl
theorem Rep.wrM {X : Cx} {c : Cfg} {σ : St} {h : Heap} (R : Rep X c σ h) {a : Addr} (w : Wr c σ a) : c.M a := by
  obtain ⟨p, o, x, e1, e2⟩ := w
  obtain ⟨a', d, f1, f2, _⟩ := R.obj p o e1
  exact snd_eq (f1.symm.trans e2) ▸ f2

theorem Ext.gone {c c' : Cfg} {σ σ' : St} {h h' : Heap} {Z : Addr → Prop} (E : Ext c σ h c' σ' h' Z) {a : Addr} (e : h'.get? a = none) : h.get? a = none :=
  (none_or_live h a).elim id fun l => ((E.live a l).no e).elim

theorem Ext.trans {X : Cx} {c c' c'' : Cfg} {σ σ' σ'' : St} {h h' h'' : Heap} {Z : Addr → Prop} (R : Rep X c σ h) (E : Ext c σ h c' σ' h' Z) (F : Ext c' σ' h' c'' σ'' h'' Z) : Ext c σ h c'' σ'' h'' Z where
  live := fun a e => F.live a (E.live a e)
  keep := fun a o e n z => F.keep a o (E.keep a o e n z) (fun q => (E.wr a q).elim n fun q => Live.no ⟨o, e⟩ q) z
  ver := fun p o x a e1 e2 e3 => by
    have v1 := E.vle p
    have v2 := F.vle p
    have e4 : σ'.V p = σ.V p := by lia
    obtain ⟨g1, g2⟩ := E.ver p o x a e1 e2 e4
    obtain ⟨k1, k2⟩ := F.ver p o x a g1 (E.rho _ _ e2) (by lia)
    exact ⟨k1, fun b hb => k2 b (g2 b hb)⟩
  vle := fun p => Nat.le_trans (E.vle p) (F.vle p)
  m1 := fun a e => (F.m1 a e).elim (E.m1 a) fun q => .inr (E.gone q)
  m2 := fun a e n => F.m2 a (E.m2 a e n) fun q => (E.wr a q).elim n fun q => (R.up a e).no q
  wr := fun a e => (F.wr a e).elim (E.wr a) fun q => .inr (E.gone q)
  rho := fun p x e => F.rho _ _ (E.rho _ _ e)

theorem Ext.weaken {c c' : Cfg} {σ σ' : St} {h h' : Heap} {Z Z' : Addr → Prop} (E : Ext c σ h c' σ' h' Z) (hz : ∀ a, Z a → Z' a) : Ext c σ h c' σ' h' Z' :=
  { E with keep := fun a o e n z => E.keep a o e n fun q => z (hz a q) }
/-- what was made behind h is no part of Z -/
theorem Ext.fresh {c c' : Cfg} {σ σ' : St} {h h' : Heap} {Z Z' : Addr → Prop} (E : Ext c σ h c' σ' h' Z) (hz : ∀ a, Z a → Z' a ∨ h.get? a = none) : Ext c σ h c' σ' h' Z' :=
  { E with keep := fun a o e n z => E.keep a o e n fun q => (hz a q).elim z fun q => Live.no ⟨o, e⟩ q }

theorem Ext.pres {X : Cx} {c c' : Cfg} {σ σ' : St} {h h' : Heap} {Z : Addr → Prop} (R : Rep X c σ h) (hz : ∀ a, Z a → c.M a) (E : Ext c σ h c' σ' h' Z) : Pres c h c' h' where
  data := fun a o e n => ⟨E.keep a o e (fun q => n (R.wrM q)) (fun q => n (hz a q)), fun q => (E.m1 a q).elim n fun q => Live.no ⟨o, e⟩ q⟩
  rho := E.rho

/-- the rest of the machine's state stands -/
structure Sh (s s' : Shared) : Prop where
  gens : s'.gens = s.gens
  drawn : s'.drawn = s.drawn
  os : s'.os = s.os
theorem Sh.refl {s : Shared} : Sh s s := ⟨rfl, rfl, rfl⟩
theorem Sh.trans {s s' s'' : Shared} (a : Sh s s') (b : Sh s' s'') : Sh s s'' := ⟨b.gens.trans a.gens, b.drawn.trans a.drawn, b.os.trans a.os⟩
theorem Sh.mk' {s : Shared} {h : Heap} {t : Nat} : Sh s { s with heap := h, toks := t } := ⟨rfl, rfl, rfl⟩

section
variable {X : Cx} {c : Cfg} {σ : St} {h : Heap}

theorem dict_keep {K : Type} [DecidableEq K] {knd : KeyKind X.prog X.w K} {h' : Heap} {d : Addr} {kvs : List (K × Value)} (hd : ∀ b, h.get? d = some b → h'.get? d = some b) (r : h.DictOf knd d kvs) : h'.DictOf knd d kvs :=
  r.imp fun _ r => r.imp fun _ r => r.imp fun _ r => ⟨hd _ r.1, r.2⟩
theorem dict_live {K : Type} [DecidableEq K] {knd : KeyKind X.prog X.w K} {d : Addr} {kvs : List (K × Value)} (r : h.DictOf knd d kvs) : Live h d := r.imp fun _ r => r.elim fun _ r => r.elim fun _ r => r.1
theorem dictH_keep {h' : Heap} {d : Addr} {xs : List (NK × Addr × Value)} (hd : ∀ b, h.get? d = some b → h'.get? d = some b) (hx : ∀ x ∈ xs, IsNK h' x.1 x.2.1) (r : h.DictOfH (nkKind X.prog X.w) d xs) : h'.DictOfH (nkKind X.prog X.w) d xs :=
  r.imp fun _ r => r.imp fun _ r => r.imp fun _ r => ⟨hd _ r.1, r.2.1, r.2.2.1, r.2.2.2.1, hx, r.2.2.2.2.2⟩
theorem nk_at {a : Addr} {k : NK} (e : IsV X c h (nkPV k) (.ref a)) : IsNK h k a := by
  obtain ⟨a', e, q⟩ := e.isNK
  exact Value.ref.inj e ▸ q
theorem ORep.mono {c c' : Cfg} {h h' : Heap} (P : Pres c h c' h') {o : AO} {a d : Addr} (hd : ∀ b, h.get? d = some b → h'.get? d = some b) (r : ORep X c h o a d) : ORep X c' h' o a d := by
  cases o with
  | inst C ks vs => exact r.imp fun _ r => r.imp fun _ r => r.imp fun _ r => ⟨(P.data _ _ r.1 r.2.1).1, (P.data _ _ r.1 r.2.1).2, hd _ r.2.2.1, r.2.2.2.1, r.2.2.2.2.1, IsVs.mono P r.2.2.2.2.2⟩
  | lst l => exact ⟨r.1, r.2.imp fun _ r2 => r2.imp fun _ r2 => ⟨r.1 ▸ hd _ (r.1 ▸ r2.1), IsVs.mono P r2.2⟩⟩
  | di es => exact ⟨r.1, r.2.imp fun _ r2 => ⟨dict_keep (r.1 ▸ hd) r2.1, r2.2.1, IsVs.mono P r2.2.2⟩⟩
  | ds es => exact ⟨r.1, r.2.imp fun _ r2 => ⟨dict_keep (r.1 ▸ hd) r2.1, r2.2.1, IsVs.mono P r2.2.2⟩⟩
  | dn es => exact ⟨r.1, r.2.imp fun _ r2 => ⟨dictH_keep (r.1 ▸ hd) (fun x hx => nk_at (IsV.mono P (r2.2.1 x hx))) r2.1, fun x hx => IsV.mono P (r2.2.1 x hx), r2.2.2.1, IsVs.mono P r2.2.2.2⟩⟩

theorem ORep.live {o : AO} {a d : Addr} (r : ORep X c h o a d) : Live h d := by
  cases o with
  | inst C ks vs => exact r.elim fun _ r => r.elim fun _ r => r.elim fun _ r => ⟨_, r.2.2.1⟩
  | lst l => exact r.2.elim fun _ r2 => r2.elim fun _ r2 => ⟨_, r.1 ▸ r2.1⟩
  | di es => exact r.2.elim fun _ r2 => r.1 ▸ dict_live r2.1
  | ds es => exact r.2.elim fun _ r2 => r.1 ▸ dict_live r2.1
  | dn es => exact r.2.elim fun _ r2 => r.1 ▸ r2.1.imp fun _ r => r.elim fun _ r => r.elim fun _ r => r.1

theorem itP {α : Type} {p q : Loc} {x y z : α} {D : Prop} (h : (if q = p then x else y) = z) (k1 : q = p → x = z → D) (k2 : q ≠ p → y = z → D) : D := by
  by_cases hq : q = p
  · rw [if_pos hq] at h; exact k1 hq h
  · rw [if_neg hq] at h; exact k2 hq h
theorem it1 {α : Type} {p q : Loc} {x y : α} (h : q = p) : (if q = p then x else y) = x := if_pos h
theorem it0 {α : Type} {p q : Loc} {x y : α} (h : q ≠ p) : (if q = p then x else y) = y := if_neg h
theorem bump_ne {p q : Loc} {n : Nat} (h : (if q = p then n + 1 else n) = n) : q ≠ p := fun e => by rw [if_pos e] at h; exact Nat.succ_ne_self _ h
theorem bump_le {p q : Loc} {n : Nat} : n ≤ if q = p then n + 1 else n := by
  by_cases hq : q = p
  · rw [if_pos hq]; exact Nat.le_succ n
  · rw [if_neg hq]; exact Nat.le_refl n
/-- a fresh number -/
noncomputable def St.set (σ : St) (p : Loc) (o : Option AO) : St := { σ with H := fun q => if q = p then o else σ.H q, V := fun q => if q = p then σ.V q + 1 else σ.V q }

theorem SameBut.live {L : Addr} {h h' : Heap} (hs : Heap.SameBut L h h') (hL : Live h' L) (a : Addr) (e : Live h a) : Live h' a := by
  by_cases z : a = L
  · subst z; exact hL
  · obtain ⟨o, e⟩ := e; exact ⟨o, (hs.2 a z).trans e⟩
theorem SameBut.low {X : Cx} {c : Cfg} {σ : St} {L : Addr} {h h' : Heap} (R : Rep X c σ h) (hs : Heap.SameBut L h h') (hM : c.M L) (a : Addr) (o : Obj) (e : X.h₀.get? a = some o) : h'.get? a = some o := by
  exact (hs.2 a fun q => nO ((R.low L hM).symm.trans (q ▸ e))).trans (R.base a o e)

/-- nothing of the numbered objects is touched: objects may come, outside of M things stay -/
theorem Rep.stay (R : Rep X c σ h) {h' : Heap} (hs : ∀ a, Live h a → Live h' a) (hk : ∀ a o, h.get? a = some o → (¬ c.M a ∨ Wr c σ a) → h'.get? a = some o) : Rep X c σ h' where
  base := fun a o e => hk a o (R.base a o e) (.inl fun q => nO ((R.low a q).symm.trans e))
  low := R.low
  up := fun a q => hs a (R.up a q)
  obj := fun p o e => by
    obtain ⟨a, d, e1, e2, e3⟩ := R.obj p o e
    exact ⟨a, d, e1, e2, ORep.mono ⟨fun a o e n => ⟨hk a o e (.inl n), n⟩, fun _ _ e => e⟩ (fun b hb => hk d b hb (.inr ⟨p, o, a, e, e1⟩)) e3⟩
  inj := R.inj
  nx := R.nx
/-- what a numbered object lies at -/
theorem Rep.at (R : Rep X c σ h) {p : Loc} {o : AO} {a d : Addr} (hp : σ.H p = some o) (hr : c.ρ p = some (a, d)) : c.M d ∧ ORep X c h o a d := by
  obtain ⟨a', d', e1, e2, e3⟩ := R.obj p o hp
  cases Option.some.inj (e1.symm.trans hr)
  exact ⟨e2, e3⟩
/-- one numbered object is turned -/
theorem Rep.turn (R : Rep X c σ h) {h' : Heap} {p : Loc} {o o' : AO} {a d : Addr} (hp : σ.H p = some o) (hr : c.ρ p = some (a, d)) (hs : Heap.SameBut d h h') (ho : ORep X c h' o' a d) : Rep X c (σ.set p (some o')) h' where
  base := fun b o e => SameBut.low R hs (R.wrM ⟨p, _, a, hp, hr⟩) b o e
  low := R.low
  up := fun b q => SameBut.live hs ho.live b (R.up b q)
  obj := fun q oq e => itP (show (if q = p then some o' else σ.H q) = some oq from e) (fun hq e => ⟨a, d, hq ▸ hr, R.wrM ⟨p, _, a, hp, hr⟩, Option.some.inj e ▸ ho⟩) fun hq e => by
    obtain ⟨b, d', e1, e2, e3⟩ := R.obj q oq e
    exact ⟨b, d', e1, e2, ORep.mono ⟨fun x o e n => ⟨(hs.2 x fun z => n (z ▸ R.wrM ⟨p, _, a, hp, hr⟩)).trans e, n⟩, fun _ _ e => e⟩ (fun x hx => (hs.2 d' fun z => hq (R.inj q p _ _ b a d e hp (z ▸ e1) hr)).trans hx) e3⟩
  inj := fun q r o1 o2 a1 b1 d1 e1 e2 f1 f2 => by
    have old : ∀ {q o1}, (σ.set p (.some o')).H q = .some o1 → ∃ o, σ.H q = .some o := fun {q o1} e => itP (show (if q = p then some o' else σ.H q) = some o1 from e) (fun hq _ => ⟨_, hq ▸ hp⟩) fun _ e => ⟨_, e⟩
    exact (old e1).elim fun _ g1 => (old e2).elim fun _ g2 => R.inj q r _ _ a1 b1 d1 g1 g2 f1 f2
  nx := R.nx
theorem Ext.turn (R : Rep X c σ h) {h' : Heap} {p : Loc} {o : AO} {o' : AO} {a d : Addr} (hp : σ.H p = some o) (hr : c.ρ p = some (a, d)) (hs : Heap.SameBut d h h') (ho : Live h' d) {Z : Addr → Prop} : Ext c σ h c (σ.set p (some o')) h' Z where
  live := SameBut.live hs ho
  keep := fun b ob e n _ => (hs.2 b fun z => n (z ▸ ⟨p, o, a, hp, hr⟩)).trans e
  ver := fun q oq x b e1 e2 e3 => ⟨(it0 (bump_ne e3)).trans e1, fun y hy => (hs.2 b fun z => bump_ne e3 (R.inj q p _ _ x a d e1 hp (z ▸ e2) hr)).trans hy⟩
  vle := fun q => bump_le
  m1 := fun _ e => .inl e
  m2 := fun _ e _ => e
  wr := fun b ⟨q, oq, x, e1, e2⟩ => itP (show (if q = p then some o' else σ.H q) = some oq from e1) (fun hq _ => .inl ⟨p, o, x, hp, hq ▸ e2⟩) fun _ e1 => .inl ⟨q, oq, x, e1, e2⟩
  rho := fun _ _ e => e

/-- a new numbered object: it lies at a (what turns: d), made behind the heap h -/
noncomputable def Cfg.add (c : Cfg) (p : Loc) (a d : Addr) : Cfg := { M := fun x => c.M x ∨ x = d, ρ := fun q => if q = p then some (a, d) else c.ρ q }
noncomputable def St.new (σ : St) (p : Loc) (o : AO) : St := { H := fun q => if q = p then some o else σ.H q, V := fun q => if q = p then σ.V q + 1 else σ.V q, n := σ.n + 1 }
theorem Rep.none (R : Rep X c σ h) {p : Loc} (hp : p.idx = σ.n) : c.ρ p = .none ∧ σ.H p = .none := by
  have e1 : c.ρ p = .none := by
    cases e : c.ρ p with
    | none => rfl
    | some x => exact absurd (hp ▸ R.nx p x e) (Nat.lt_irrefl _)
  refine ⟨e1, ?_⟩
  cases e : σ.H p with
  | none => rfl
  | some o => exact (R.obj p o e).elim fun a f => f.elim fun d f => nO (e1.symm.trans f.1)
theorem Pres.add (R : Rep X c σ h) {h' : Heap} {p : Loc} {a d : Addr} (hp : p.idx = σ.n) (hk : ∀ b o, h.get? b = some o → h'.get? b = some o) (hd : h.get? d = .none) : Pres c h (c.add p a d) h' where
  data := fun b o e n => ⟨hk b o e, fun q => q.elim n fun q => Live.no ⟨o, e⟩ (q ▸ hd)⟩
  rho := fun q x e => (it0 fun hq => nO ((R.none hp).1.symm.trans (hq ▸ e))).trans e
theorem Rep.new (R : Rep X c σ h) {h' : Heap} {p : Loc} {o : AO} {a d : Addr} (hp : p.idx = σ.n) (hk : ∀ b o, h.get? b = some o → h'.get? b = some o) (hd : h.get? d = .none)
    (ho : ORep X (c.add p a d) h' o a d) : Rep X (c.add p a d) (σ.new p o) h' where
  base := fun b o e => hk b o (R.base b o e)
  low := fun b q => q.elim (R.low b) fun q => (none_or_live _ b).elim id fun ⟨o, l⟩ => (Live.no ⟨o, R.base _ _ l⟩ (q ▸ hd)).elim
  up := fun b q => q.elim (fun q => (R.up b q).elim fun o e => ⟨o, hk _ _ e⟩) fun q => q ▸ ho.live
  obj := fun q oq e => itP (show (if q = p then some o else σ.H q) = some oq from e) (fun hq e => ⟨a, d, it1 hq, .inr rfl, Option.some.inj e ▸ ho⟩) fun hq e => by
    obtain ⟨b, d', e1, e2, e3⟩ := R.obj q oq e
    exact ⟨b, d', (it0 hq).trans e1, .inl e2, ORep.mono (Pres.add R hp hk hd) (fun x hx => hk _ _ hx) e3⟩
  inj := fun q r o1 o2 a1 b1 d1 e1 e2 f1 f2 => by
    have kn : ∀ {q : Loc} {o1 : AO} {a1 : Addr}, (σ.new p o).H q = some o1 → (c.add p a d).ρ q = some (a1, d1) → (q = p ∧ d = d1) ∨ (d1 ≠ d ∧ ∃ o1, σ.H q = some o1 ∧ c.ρ q = some (a1, d1)) := fun {q o1 a1} e f =>
      itP (show (if q = p then some (a, d) else c.ρ q) = some (a1, d1) from f) (fun hq f => .inl ⟨hq, snd_eq f⟩) fun hq f =>
        itP (show (if q = p then some o else σ.H q) = some o1 from e) (fun hq' => absurd hq' hq) fun _ e => .inr ⟨fun z => (R.up d1 (R.wrM ⟨q, o1, a1, e, f⟩)).no (z ▸ hd), o1, e, f⟩
    rcases kn e1 f1 with ⟨g1, g2⟩ | ⟨g1, _, g2, g3⟩
    · rcases kn e2 f2 with ⟨k1, k2⟩ | ⟨k1, _, k2, k3⟩
      · exact g1.trans k1.symm
      · exact absurd g2.symm k1
    · rcases kn e2 f2 with ⟨k1, k2⟩ | ⟨k1, _, k2, k3⟩
      · exact absurd k2.symm g1
      · exact R.inj q r _ _ a1 b1 d1 g2 k2 g3 k3
  nx := fun q x e => itP (show (if q = p then some (a, d) else c.ρ q) = some x from e) (fun hq _ => by rw [hq, hp]; exact Nat.lt_succ_self _) fun _ e => Nat.lt_succ_of_lt (R.nx q x e)
theorem Ext.new (R : Rep X c σ h) {h' : Heap} {p : Loc} {o : AO} {a d : Addr} (hp : p.idx = σ.n) (hk : ∀ b o, h.get? b = some o → h'.get? b = some o) (hd : h.get? d = .none) {Z : Addr → Prop} :
    Ext c σ h (c.add p a d) (σ.new p o) h' Z where
  live := fun b ⟨o, e⟩ => ⟨o, hk b o e⟩
  keep := fun b ob e _ _ => hk b ob e
  ver := fun q oq x b e1 e2 e3 => ⟨(it0 (bump_ne e3)).trans e1, fun y hy => hk _ _ hy⟩
  vle := fun q => bump_le
  m1 := fun b e => e.elim .inl fun e => .inr (e ▸ hd)
  m2 := fun b e _ => .inl e
  wr := fun b ⟨q, oq, x, e1, e2⟩ => itP (show (if q = p then some (a, d) else c.ρ q) = some (x, b) from e2) (fun _ e2 => .inr (snd_eq e2 ▸ hd)) fun hq e2 => .inl ⟨q, oq, x, (it0 hq).symm.trans e1, e2⟩
  rho := (Pres.add R hp hk hd).rho

/-- new objects that no number names: data, or a frame's (marked as unstable) -/
noncomputable def Cfg.mark (c : Cfg) (S : Addr → Prop) : Cfg := { c with M := fun x => c.M x ∨ S x }
theorem Pres.mark {h' : Heap} {S : Addr → Prop} (hk : ∀ b o, h.get? b = some o → h'.get? b = some o) (hS : ∀ b, S b → h.get? b = none) : Pres c h (c.mark S) h' where
  data := fun b o e n => ⟨hk b o e, fun q => q.elim n fun q => Live.no ⟨o, e⟩ (hS b q)⟩
  rho := fun _ _ e => e
theorem Rep.mark (R : Rep X c σ h) {h' : Heap} {S : Addr → Prop} (hk : ∀ b o, h.get? b = some o → h'.get? b = some o) (hS : ∀ b, S b → h.get? b = .none) (hS' : ∀ b, S b → Live h' b) : Rep X (c.mark S) σ h' where
  base := fun b o e => hk b o (R.base b o e)
  low := fun b q => q.elim (R.low b) fun q => (none_or_live _ b).elim id fun ⟨o, l⟩ => (Live.no ⟨o, R.base _ _ l⟩ (hS b q)).elim
  up := fun b q => q.elim (fun q => by obtain ⟨o, e⟩ := R.up b q; exact ⟨o, hk _ _ e⟩) (hS' b)
  obj := fun q oq e => by
    obtain ⟨b, d', e1, e2, e3⟩ := R.obj q oq e
    exact ⟨b, d', e1, .inl e2, ORep.mono (Pres.mark hk hS) (fun x hx => hk _ _ hx) e3⟩
  inj := R.inj
  nx := R.nx
theorem Ext.mark {h' : Heap} {S : Addr → Prop} (hk : ∀ b o, h.get? b = some o → h'.get? b = some o) (hS : ∀ b, S b → h.get? b = .none) {Z : Addr → Prop} : Ext c σ h (c.mark S) σ h' Z where
  live := fun b ⟨o, e⟩ => ⟨o, hk b o e⟩
  keep := fun b ob e _ _ => hk b ob e
  ver := fun q oq x b e1 e2 _ => ⟨e1, fun y hy => hk _ _ hy⟩
  vle := fun _ => Nat.le_refl _
  m1 := fun b e => e.elim .inl fun e => .inr (hS b e)
  m2 := fun b e _ => .inl e
  wr := fun b e => .inl e
  rho := fun _ _ e => e
theorem Rep.grow (R : Rep X c σ h) {h' : Heap} (hk : ∀ b o, h.get? b = some o → h'.get? b = some o) : Rep X c σ h' := R.stay (fun b ⟨o, e⟩ => ⟨o, hk b o e⟩) fun b o e _ => hk b o e
theorem Ext.grow {h' : Heap} (hk : ∀ b o, h.get? b = some o → h'.get? b = some o) {Z : Addr → Prop} : Ext c σ h c σ h' Z where
  live := fun b ⟨o, e⟩ => ⟨o, hk b o e⟩
  keep := fun b ob e _ _ => hk b ob e
  ver := fun q oq x b e1 e2 _ => ⟨e1, fun y hy => hk _ _ hy⟩
  vle := fun _ => Nat.le_refl _
  m1 := fun b e => .inl e
  m2 := fun b e _ => e
  wr := fun b e => .inl e
  rho := fun _ _ e => e
/-- an unstable address that no number names is turned (a frame's, an iterator's) -/
theorem Rep.other (R : Rep X c σ h) {h' : Heap} {L : Addr} (hs : Heap.SameBut L h h') (hL : Live h' L) (hM : c.M L) (hW : ¬ Wr c σ L) : Rep X c σ h' :=
  R.stay (SameBut.live hs hL) fun b o e q => (hs.2 b fun z => q.elim (fun n => n (z ▸ hM)) fun w => hW (z ▸ w)).trans e
theorem Ext.other (R : Rep X c σ h) {h' : Heap} {L : Addr} (hs : Heap.SameBut L h h') (hL : Live h' L) (hW : ¬ Wr c σ L) {Z : Addr → Prop} (hZ : Z L) : Ext c σ h c σ h' Z where
  live := SameBut.live hs hL
  keep := fun b ob e _ z => (hs.2 b fun q => z (q ▸ hZ)).trans e
  ver := fun q oq x b e1 e2 _ => ⟨e1, fun y hy => (hs.2 b fun z => hW (z ▸ ⟨q, oq, x, e1, e2⟩)).trans hy⟩
  vle := fun _ => Nat.le_refl _
  m1 := fun b e => .inl e
  m2 := fun b e _ => e
  wr := fun b e => .inl e
  rho := fun _ _ e => e

/-- an object gives up its number: what it holds is data from now on -/
noncomputable def St.drop (σ : St) (p : Loc) : St := { σ with H := fun q => if q = p then none else σ.H q, V := fun q => if q = p then σ.V q + 1 else σ.V q }
noncomputable def Cfg.drop (c : Cfg) (d : Addr) : Cfg := { c with M := fun x => c.M x ∧ x ≠ d }
theorem Pres.drop {d : Addr} : Pres c h (c.drop d) h := ⟨fun _ _ e n => ⟨e, fun q => n q.1⟩, fun _ _ e => e⟩
theorem Rep.drop (R : Rep X c σ h) {p : Loc} {o : AO} {a d : Addr} (hp : σ.H p = some o) (hr : c.ρ p = some (a, d)) : Rep X (c.drop d) (σ.drop p) h := by
  have old : ∀ {q o1}, (σ.drop p).H q = .some o1 → q ≠ p ∧ σ.H q = .some o1 := fun {q o1} e => itP (show (if q = p then .none else σ.H q) = some o1 from e) (fun _ e => nO e) fun hq e => ⟨hq, e⟩
  exact {
    base := R.base
    low := fun b q => R.low b q.1
    up := fun b q => R.up b q.1
    obj := fun q oq e => by
      obtain ⟨b, d', e1, e2, e3⟩ := R.obj q oq (old e).2
      exact ⟨b, d', e1, ⟨e2, fun z => (old e).1 (R.inj q p _ _ b a d (old e).2 hp (z ▸ e1) hr)⟩, ORep.mono Pres.drop (fun _ e => e) e3⟩
    inj := fun q r o1 o2 a1 b1 d1 e1 e2 f1 f2 => R.inj q r _ _ a1 b1 d1 (old e1).2 (old e2).2 f1 f2
    nx := R.nx }
theorem Ext.drop (R : Rep X c σ h) {p : Loc} {o : AO} {a d : Addr} (hp : σ.H p = some o) (hr : c.ρ p = some (a, d)) {Z : Addr → Prop} : Ext c σ h (c.drop d) (σ.drop p) h Z where
  live := fun _ e => e
  keep := fun b ob e _ _ => e
  ver := fun q oq x b e1 e2 e3 => ⟨(it0 (bump_ne e3)).trans e1, fun y hy => hy⟩
  vle := fun q => bump_le
  m1 := fun b e => .inl e.1
  m2 := fun b e n => ⟨e, fun z => n (z ▸ ⟨p, o, a, hp, hr⟩)⟩
  wr := fun b ⟨q, oq, x, e1, e2⟩ => itP (show (if q = p then .none else σ.H q) = some oq from e1) (fun _ e => nO e) fun _ e1 => .inl ⟨q, oq, x, e1, e2⟩
  rho := fun _ _ e => e
end
end Lm
end
section
open PySem PySem.W PyProof.Rows
set_option Elab.async false
set_option autoImplicit false
set_option linter.unusedVariables false
set_option tactic.hygienic false
namespace Lm

/-- a name that the model treats as any other -/
noncomputable def plainN (k : Str) : Bool := !(k == ("__debug__" : Str)) && !(k == ("__classdict__" : Str))
theorem plainN_1 {k : Str} (h : plainN k = true) : (k == ("__debug__" : Str)) = false := by simp [plainN] at h; simpa using h.1
theorem plainN_2 {k : Str} (h : plainN k = true) : (k == ("__classdict__" : Str)) = false := by simp [plainN] at h; simpa using h.2

noncomputable abbrev Ls := List (Str × PV)
noncomputable def setL (k : Str) (p : PV) : Ls → Ls
  | [] => [(k, p)]
  | e :: r => if e.1 = k then (k, p) :: r else e :: setL k p r
noncomputable def getV (k : Str) : Ls → Option PV
  | [] => none
  | e :: r => if e.1 = k then some e.2 else getV k r
theorem getV_setL (k : Str) (p : PV) (j : Str) (ls : Ls) : getV j (setL k p ls) = if j = k then some p else getV j ls := by
  induction ls with
  | nil =>
    show (if k = j then some p else none) = _
    by_cases h : j = k
    · rw [if_pos h, if_pos h.symm]
    · rw [if_neg h, if_neg (Ne.symm h)]; rfl
  | cons e r ih =>
    show getV j (if e.1 = k then (k, p) :: r else e :: setL k p r) = if j = k then some p else (if e.1 = j then some e.2 else getV j r)
    by_cases h : e.1 = k
    · rw [if_pos h]
      show (if k = j then some p else getV j r) = _
      by_cases hj : j = k
      · rw [if_pos hj.symm, if_pos hj]
      · rw [if_neg (Ne.symm hj), if_neg hj, if_neg fun z => hj (z.symm.trans h)]
    · rw [if_neg h]
      show (if e.1 = j then some e.2 else getV j (setL k p r)) = _
      rw [ih]
      by_cases hj : j = k
      · rw [if_pos hj, if_pos hj, if_neg fun z => h (z.trans hj)]
      · rw [if_neg hj, if_neg hj]

noncomputable def varKind : Option NameKind → Bool
  | some .local | some .cell | some .free => true
  | _ => false

/-- the name x of env holds v -/
noncomputable def VarAt (h : Heap) (env : Env) (x : Str) (v : Value) : Prop :=
  (env.kindOf x = some .local ∧ ∃ m, h.Ns env.locals m ∧ m x = some v) ∨ ((env.kindOf x = some .cell ∨ env.kindOf x = some .free) ∧ ∃ a, env.cells.lookup x = some a ∧ h.IsCell a (some v))

/-- the frame's own addresses -/
noncomputable def Fa (env : Env) (a : Addr) : Prop := a = env.locals ∨ ∃ x, env.cells.lookup x = some a

structure Fok (X : Cx) (c : Cfg) (σ : St) (h : Heap) (env : Env) (ls : Ls) : Prop where
  kind : env.scope.kind = .function
  glob : env.globals = mainGlobals
  bul : env.builtins = builtinsNs
  fa : ∀ a, Fa env a → c.M a ∧ ¬ Wr c σ a
  ns : ∃ m, h.Ns env.locals m
  cells : ∀ x a, env.cells.lookup x = some a → ∃ v, h.IsCell a v
  apart : env.cells.Pairwise fun x y => x.2 ≠ y.2
  has : ∀ x, env.kindOf x = some .cell ∨ env.kindOf x = some .free → (env.cells.lookup x).isSome = true
  vars : ∀ k p, getV k ls = some p → varKind (env.kindOf k) = true → ∃ v, VarAt h env k v ∧ IsV X c h p v

section
variable {X : Cx} {c c' : Cfg} {σ σ' : St} {h h' : Heap} {env : Env} {ls : Ls}

theorem VarAt.keeps (hk : ∀ a, Fa env a → ∀ o, h.get? a = some o → h'.get? a = some o) {x : Str} {v : Value} (e : VarAt h env x v) : VarAt h' env x v := by
  rcases e with ⟨e1, m, e2, e3⟩ | ⟨e1, a, e2, o, e3, e4⟩
  · exact .inl ⟨e1, m, e2.at' fun o e => hk _ (.inl rfl) o e, e3⟩
  · exact .inr ⟨e1, a, e2, o, hk _ (.inr ⟨_, e2⟩) o e3, e4⟩

theorem Fok.ext (F : Fok X c σ h env ls) (R : Rep X c σ h) {Z : Addr → Prop} (hz : ∀ a, Z a → c.M a) (hf : ∀ a, Fa env a → ¬ Z a) (E : Ext c σ h c' σ' h' Z) : Fok X c' σ' h' env ls := by
  have hk : ∀ a, Fa env a → ∀ o, h.get? a = some o → h'.get? a = some o := fun a q o e => E.keep a o e (F.fa a q).2 (hf a q)
  refine ⟨F.kind, F.glob, F.bul, fun a q => ⟨E.m2 a (F.fa a q).1 (F.fa a q).2, fun w => (E.wr a w).elim (F.fa a q).2 fun z => (R.up a (F.fa a q).1).no z⟩, ?_, fun x a q => ?_, F.apart, F.has, fun k p e g => ?_⟩
  · obtain ⟨m, hm⟩ := F.ns
    exact ⟨m, hm.at' fun o e => hk _ (.inl rfl) o e⟩
  · obtain ⟨v, o, e1, e2⟩ := F.cells x a q
    exact ⟨v, o, hk _ (.inr ⟨x, q⟩) o e1, e2⟩
  · obtain ⟨v, e1, e2⟩ := F.vars k p e g
    exact ⟨v, e1.keeps hk, IsV.mono (E.pres R hz) e2⟩

variable {M : Model} {A : Around} {E : Value → Shared → Prop} {s : Shared}

theorem ev_var (F : Fok X c σ s.heap env ls) {k : Str} {p : PV} {pos : Pos} (hpl : plainN k = true) (e : getV k ls = some p) (g : varKind (env.kindOf k) = true) {Q : Value → Shared → Prop} (hq : ∀ v, IsV X c s.heap p v → Q v s) :
    wpAny M A (eval (.Name k pos) env) Q E s := by
  obtain ⟨v, e1, e2⟩ := F.vars k p e g
  refine wpAny_Name ?_ (plainN_1 hpl)
  rcases e1 with ⟨f1, m, f2, f3⟩ | ⟨f1 | f1, a, f2, f3⟩
  · exact wpAny_loadName_local F.kind f1 f2 f3 (hq v e2)
  · exact wpAny_loadName_cell F.kind f1 f2 f3 (hq v e2)
  · exact wpAny_loadName_free F.kind f1 f2 f3 (hq v e2) (plainN_2 hpl)

theorem cell_ns {h : Heap} {a L : Addr} {v : Option Value} {m : Str → Option Value} (hc : h.IsCell a v) (hn : h.Ns L m) : a ≠ L := fun z => by
  obtain ⟨o, ho, hd⟩ := hc
  obtain ⟨o', es, ep, ho', hd', _⟩ := hn
  rw [z, ho'] at ho; rw [Option.some.inj ho, hd] at hd'; exact nomatch hd'
theorem ns_eq {h : Heap} {L : Addr} {m m' : Str → Option Value} (hn : h.Ns L m) (hn' : h.Ns L m') (x : Str) : m' x = m x := by
  obtain ⟨o, es, ep, ho, hd, _, hf⟩ := hn
  obtain ⟨o', es', ep', ho', hd', _, hf'⟩ := hn'
  cases Option.some.inj (ho.symm.trans ho')
  cases hd.symm.trans hd'
  exact (hf' x).symm.trans (hf x)
/-- a name of the frame is stored, at the address L of the frame -/
theorem Fok.put (R : Rep X c σ h) (F : Fok X c σ h env ls) {k : Str} {p : PV} {v : Value} (hp : IsV X c h p v) {L : Addr} (hL : Fa env L) (hs : Heap.SameBut L h h') (hn : ∃ m, h'.Ns env.locals m) (hc : ∀ x a, env.cells.lookup x = some a → ∃ v, h'.IsCell a v) (hv : VarAt h' env k v)
    (ho : ∀ j u, j ≠ k → VarAt h env j u → VarAt h' env j u) : Rep X c σ h' ∧ (∀ {Z : Addr → Prop}, Z L → Ext c σ h c σ h' Z) ∧ Fok X c σ h' env (setL k p ls) := by
  have hM := (F.fa L hL).1
  have hW := (F.fa L hL).2
  have P : Pres c h c h' := ⟨fun a o e n => ⟨(hs.2 a fun z => n (z ▸ hM)).trans e, n⟩, fun _ _ e => e⟩
  have hl : Live h' L := hL.elim (fun z => z ▸ hn.elim fun m q => q.imp fun _ q => q.elim fun _ q => q.elim fun _ q => q.1) fun ⟨x, hx⟩ => (hc x L hx).elim fun v q => q.imp fun _ q => q.1
  refine ⟨R.other hs hl hM hW, fun hZ => Ext.other R hs hl hW hZ, ⟨F.kind, F.glob, F.bul, F.fa, hn, hc, F.apart, F.has, fun j q e g => ?_⟩⟩
  rw [getV_setL] at e
  by_cases hj : j = k
  · rw [if_pos hj] at e; rw [hj, ← Option.some.inj e]; exact ⟨v, hv, IsV.mono P hp⟩
  · rw [if_neg hj] at e
    obtain ⟨u, e1, e2⟩ := F.vars j q e g
    exact ⟨u, ho j u hj e1, IsV.mono P e2⟩
/-- a local name is stored: the frame's dict alone turns -/
theorem st_loc (R : Rep X c σ s.heap) (F : Fok X c σ s.heap env ls) {k : Str} {p : PV} {v : Value} (hp : IsV X c s.heap p v) (hl : env.kindOf k = some .local) {Q : Unit → Shared → Prop}
    (hq : ∀ h' tk, Rep X c σ h' → Ext c σ s.heap c σ h' (· = env.locals) → Fok X c σ h' env (setL k p ls) → Q () { s with heap := h', toks := tk }) : wpAny M A (storeName env k v) Q E s := by
  obtain ⟨m, hm⟩ := F.ns
  refine wpAny_storeName_local hl hm (fun h' hn hs' => ?_) (by rw [F.kind]; rfl)
  obtain ⟨R', E', F'⟩ := F.put R hp (.inl rfl) hs' ⟨_, hn⟩ (fun x a q => (F.cells x a q).imp fun v hv => hv.sameBut hs' (cell_ns hv hm)) (.inl ⟨hl, _, hn, if_pos rfl⟩) fun j u hj e =>
    e.imp (fun ⟨f1, m', f2, f3⟩ => ⟨f1, _, hn, (if_neg hj).trans ((ns_eq hm f2 j).symm.trans f3)⟩) fun ⟨f1, a, f2, f3⟩ => ⟨f1, a, f2, f3.sameBut hs' (cell_ns f3 hm)⟩
  exact hq h' _ R' (E' rfl) F'
/-- a name is stored -/
theorem st_var (R : Rep X c σ s.heap) (F : Fok X c σ s.heap env ls) {k : Str} {p : PV} {v : Value} (hp : IsV X c s.heap p v) (hs : env.kindOf k = some .local ∨ (env.kindOf k = some .cell ∧ (env.cells.lookup k).isSome = true)) {Q : Unit → Shared → Prop}
    (hq : ∀ h' tk, Rep X c σ h' → Ext c σ s.heap c σ h' (Fa env) → Fok X c σ h' env (setL k p ls) → Q () { s with heap := h', toks := tk }) : wpAny M A (bindName env k v) Q E s := by
  refine wpAny_bindName ?_
  rcases hs with hl | ⟨hl, hc⟩
  · exact st_loc R F hp hl fun h' tk R' E' F' => hq h' tk R' (E'.weaken fun _ z => .inl z) F'
  · obtain ⟨a, ha⟩ := Option.isSome_iff_exists.mp hc
    obtain ⟨v0, hv0⟩ := F.cells _ _ ha
    obtain ⟨m, hm⟩ := F.ns
    have aL := Ne.symm (cell_ns hv0 hm)
    refine wpAny_storeName_cell F.kind hl ha hv0 fun h' hc' hs' => ?_
    obtain ⟨R', E', F'⟩ := F.put R hp (.inr ⟨_, ha⟩) hs' ⟨m, hm.sameBut hs' aL⟩ (fun x b q => (Decidable.em (b = a)).elim (fun z => ⟨_, z ▸ hc'⟩) fun z => (F.cells x b q).imp fun u hu => hu.sameBut hs' z) (.inr ⟨.inl hl, a, ha, hc'⟩) fun j u hj e =>
      e.imp (fun ⟨f1, m', f2, f3⟩ => ⟨f1, m', f2.sameBut hs' aL, f3⟩) fun ⟨f1, b, f2, f3⟩ => ⟨f1, b, f2, f3.sameBut hs' fun z => hj (name_of_addr F.apart (mem_of_lookup (z ▸ f2)) (mem_of_lookup ha))⟩
    exact hq h' _ R' (E' (.inr ⟨_, ha⟩)) F'
end
end Lm
end
section
open PySem PySem.W PyProof.Rows
set_option Elab.async false
set_option autoImplicit false
set_option linter.unusedVariables false
set_option tactic.hygienic false
namespace Lm

noncomputable def Gr (h h' : Heap) : Prop := ∀ a o, h.get? a = some o → h'.get? a = some o
theorem Gr.refl {h : Heap} : Gr h h := fun _ _ e => e
theorem Gr.trans {h h' h'' : Heap} (a : Gr h h') (b : Gr h' h'') : Gr h h'' := fun x o e => b x o (a x o e)
theorem Gr.push {h : Heap} (o : Obj) : Gr h (h.push o) := fun _ _ e => Heap.get?_push_of_some _ e
theorem Gr.gone {h h' : Heap} (G : Gr h h') {a : Addr} (e : h'.get? a = none) : h.get? a = none := (none_or_live h a).elim id fun ⟨o, l⟩ => by rw [G a o l] at e; cases e
theorem get?_size (h : Heap) : h.get? h.objs.size = none := (none_or_live h _).elim id fun ⟨o, l⟩ => absurd (Heap.lt_size l) (Nat.lt_irrefl _)

/-- what the walk goes on with behind a step that gives p and at most makes new objects -/
noncomputable def Pu (X : Cx) (c : Cfg) (s : Shared) (p : PV) (Q : Value → Shared → Prop) : Prop := ∀ v h' tk, Gr s.heap h' → IsV X c h' p v → Q v { s with heap := h', toks := tk }
theorem Pu.now {X : Cx} {c : Cfg} {s : Shared} {p : PV} {Q : Value → Shared → Prop} (q : Pu X c s p Q) {v : Value} (tk : Nat) (hv : IsV X c s.heap p v) : Q v { s with toks := tk } := q v s.heap tk .refl hv
theorem Pu.here {X : Cx} {c : Cfg} {s : Shared} {p : PV} {Q : Value → Shared → Prop} (q : Pu X c s p Q) {v : Value} (hv : IsV X c s.heap p v) : Q v s := q v s.heap s.toks .refl hv

/-- what an operator makes of two ints -/
noncomputable def intOp (a b : Int) : Operator → Option Int
  | .Add => some (a + b)
  | .Sub => some (a - b)
  | .Mult => if a.natAbs < 2 ^ 64 ∨ b.natAbs < 2 ^ 64 then some (a * b) else none
  | .FloorDiv => if b ≠ 0 ∧ b.natAbs < 1073741824 then some (a.fdiv b) else none
  | .Mod => if b ≠ 0 then some (a.fmod b) else none
  | .Pow => if 0 ≤ b ∧ b ≤ 1000000 ∧ a.natAbs < 2 ^ 64 then some (a ^ b.toNat) else none
  | .LShift => if 0 ≤ b ∧ b ≤ 1000000 ∧ a.natAbs < 2 ^ 64 then some (a * 2 ^ b.toNat) else none
  | .RShift => if 0 ≤ b then some (a.fdiv (2 ^ b.toNat)) else none
  | .BitAnd => some (Builtin.bitAnd a b)
  | .BitOr => some (Builtin.bitOr a b)
  | .BitXor => none
  | .Div => none
  | .MatMult => none
noncomputable def isAdd : Operator → Bool
  | .Add => true
  | _ => false
noncomputable def binop (op : Operator) (p q : PV) : Option PV := match p with
  | .int a => (asI q).bind fun b => (intOp a b op).map .int
  | .bytes a => (asB q).bind fun b => if isAdd op = true ∧ a.size + b.size ≤ 16777216 then some (.bytes (a ++ b)) else none
  | .lst l => (asL q).bind fun m => if isAdd op = true ∧ l.length + m.length ≤ 16777216 then some (.lst (l ++ m)) else none
  | _ => none

section
variable {X : Cx} {c : Cfg} {s : Shared} {A : Around} {E : Value → Shared → Prop} {Q : Value → Shared → Prop} {p q r : PV} {v u : Value}

theorem IsV.int' {h : Heap} {i : Int} {t : Tok} : IsV X c h (.int i) (.int i t) := .mk t
theorem IsV.bool' {h : Heap} {b : Bool} : IsV X c h (.bool b) (.bool b) := rfl
theorem IsV.none' {h : Heap} : IsV X c h .none .none := rfl
theorem IsV.bytes' {h : Heap} {b : Array UInt8} {t : Tok} : IsV X c h (.bytes b) (.bytes b t) := .mk t
theorem IsV.str' {h : Heap} {k : Str} {t : Tok} : IsV X c h (.str k) (.str k t) := .mk t

theorem Gr.pres {h h' : Heap} (G : Gr h h') : Pres c h c h' := ⟨fun a o e n => ⟨G a o e, n⟩, fun _ _ e => e⟩
theorem IsV.gr {h h' : Heap} (e : IsV X c h p v) (G : Gr h h') : IsV X c h' p v := IsV.mono G.pres e
theorem IsVs.gr {h h' : Heap} {ps : List PV} {vs : List Value} (e : IsVs X c h ps vs) (G : Gr h h') : IsVs X c h' ps vs := IsVs.mono G.pres e

/-- a fresh address is unmarked -/
noncomputable def Fresh (c : Cfg) (h : Heap) : Prop := ∀ a, h.get? a = none → ¬ c.M a
theorem Rep.fresh {σ : St} {h : Heap} (R : Rep X c σ h) : Fresh c h := fun a ha q => (R.up a q).no ha
theorem Fresh.gr {h h' : Heap} (F : Fresh c h) (G : Gr h h') : Fresh c h' := fun a ha => F a (G.gone ha)

theorem IsV.newL {h : Heap} {ps : List PV} {vs : List Value} (F : Fresh c h) (e : IsVs X c h ps vs) : IsV X c (h.push (lstObj vs.toArray 0)) (.lst ps) (.ref h.objs.size) :=
  .mk _ vs.toArray 0 (Heap.get?_push_size _ rfl) (F _ (get?_size _)) (e.gr (.push _))
theorem IsV.newT {h : Heap} {ps : List PV} {vs : List Value} (F : Fresh c h) (e : IsVs X c h ps vs) : IsV X c (h.push (tupObj vs.toArray 0)) (.tup ps) (.ref h.objs.size) :=
  .mk _ vs.toArray 0 (Heap.get?_push_size _ rfl) (F _ (get?_size _)) (e.gr (.push _))

theorem bin_int {op : Operator} {a b i : Int} {t t' : Tok} (e : intOp a b op = some i) : Pu X c s (.int i) Q → wpAny (model X.prog X.w) A (binaryOp op (.int a t) (.int b t')) Q E s := by
  cases op with
  | Add => exact oS e fun k => add_int (k.now _ .int')
  | Sub => exact oS e fun k => sub_int (k.now _ .int')
  | BitAnd => exact oS e fun k => and_int (k.now _ .int')
  | BitOr => exact oS e fun k => or_int (k.now _ .int')
  | Mod => exact oIs e fun hs k => mod_int hs (k.now _ .int')
  | RShift => exact oIs e fun hs k => rshift_int hs (k.now _ .int')
  | FloorDiv => exact oIs e fun hs k => floordiv_int hs.1 (k.now _ .int') (.inl (PyProof.noPylong_small hs.2))
  | Pow => exact oIs e fun hs k => pow_int_small hs.1 hs.2.1 hs.2.2 (k.now _ .int')
  | LShift => exact oIs e fun hs k => lshift_int_small hs.1 hs.2.1 hs.2.2 (k.now _ .int')
  | Mult => exact oIs e fun hs k => mul_int (k.now _ .int') (hs.elim (fun h => .of_left (intBits_le h)) fun h => .of_right (intBits_le h))
  | _ => exact nO e
theorem isAdd_eq {op : Operator} (h : isAdd op = true) : op = .Add := by cases op <;> first | rfl | exact bF h
theorem op_bin {op : Operator} (F : Fresh c s.heap) (e : binop op p q = some r) (hp : IsV X c s.heap p v) (hq : IsV X c s.heap q u) (k : Pu X c s r Q) : wpAny (model X.prog X.w) A (binaryOp op v u) Q E s := by
  revert k hp
  cases p with
  | int a =>
    refine oB (show (asI q).bind _ = some r from e) fun b hb e => ?_
    rw [asI_eq hb] at hq
    exact oM e fun i e1 hp k => hp.intE fun t => hq.intE fun t' => bin_int e1 k
  | bytes a =>
    refine oB (show (asB q).bind _ = some r from e) fun b hb e => ?_
    rw [asB_eq hb] at hq
    exact oIs e fun hs hp k => hp.bytesE fun t => hq.bytesE fun t' => by rw [isAdd_eq hs.1]; exact KBy.add_bytes hs.2 fun t' tk => k.now _ .bytes'
  | lst l =>
    refine oB (show (asL q).bind _ = some r from e) fun m hm e => ?_
    rw [asL_eq hm] at hq
    refine oIs e fun hs hp k => hp.lstE fun x vs n h1 m1 e1 => hq.lstE fun y us n' h2 m2 e2 => ?_
    rw [isAdd_eq hs.1]
    refine P.add_list h1 h2 ?_ ?_
    · have := IsV.newL F (e1.append e2)
      rw [show (vs.toList ++ us.toList).toArray = vs ++ us from Array.toList_inj.mp Array.toList_append.symm] at this
      exact k _ _ _ (Gr.push _) this
    · rw [sizeLine_eq, show vs.size = _ from e1.length, show us.size = _ from e2.length]; exact hs.2
  | _ => exact nO e
end
end Lm
end
section
open PySem PySem.W PyProof.Rows
set_option Elab.async false
set_option autoImplicit false
set_option linter.unusedVariables false
set_option linter.unusedSectionVars false
set_option linter.unusedSimpArgs false
set_option tactic.hygienic false
namespace Lm

section
variable {K : Type} [DecidableEq K]
noncomputable def vat (es : List (K × PV)) (k : K) : Option PV := (es.find? fun e => decide (e.1 = k)).map (·.2)
noncomputable def sto (es : List (K × PV)) (k : K) (p : PV) : List (K × PV) := if (vat es k).isSome then es.map (fun e => if e.1 = k then (e.1, p) else e) else es ++ [(k, p)]
noncomputable def wou (es : List (K × PV)) (k : K) : List (K × PV) := es.filter fun e => decide (e.1 ≠ k)
theorem find_cons {V : Type} (e : K × V) (es : List (K × V)) (k : K) : ((e :: es).find? fun e => decide (e.1 = k)).map (·.2) = if e.1 = k then some e.2 else (es.find? fun e => decide (e.1 = k)).map (·.2) := by
  by_cases h : e.1 = k
  · rw [List.find?_cons, decide_eq_true h, if_pos h]; rfl
  · rw [List.find?_cons, decide_eq_false h, if_neg h]
theorem wou_cons {V : Type} (e : K × V) (es : List (K × V)) (k : K) : (e :: es).filter (fun e => decide (e.1 ≠ k)) = if e.1 = k then es.filter (fun e => decide (e.1 ≠ k)) else e :: es.filter fun e => decide (e.1 ≠ k) := by
  by_cases h : e.1 = k
  · rw [List.filter_cons, if_neg (by rw [decide_eq_false (not_not_intro h)]; exact Bool.false_ne_true), if_pos h]
  · rw [List.filter_cons, if_pos (decide_eq_true h), if_neg h]
theorem vat_any (es : List (K × PV)) (k : K) : (es.map (·.1)).any (fun a => decide (a = k)) = (vat es k).isSome := by
  induction es with
  | nil => rfl
  | cons e es ih =>
    rw [show vat (e :: es) k = _ from find_cons e es k, List.map_cons, List.any_cons, ih]
    by_cases h : e.1 = k
    · rw [if_pos h, decide_eq_true h]; rfl
    · rw [if_neg h, decide_eq_false h]; rfl

variable {X : Cx} {c : Cfg} {h : Heap}
theorem VMap.nil : VMap X c h ([] : List (K × PV)) [] := ⟨rfl, IsVs.nil⟩
theorem VMap.cons {e : K × PV} {kv : K × Value} {es : List (K × PV)} {kvs : List (K × Value)} (h1 : e.1 = kv.1) (h2 : IsV X c h e.2 kv.2) (h3 : VMap X c h es kvs) : VMap X c h (e :: es) (kv :: kvs) :=
  ⟨List.cons_eq_cons.mpr ⟨h1, h3.1⟩, IsVs.cons h2 h3.2⟩
@[elab_as_elim] theorem VMap.consE {C : List (K × Value) → Prop} {e : K × PV} {es : List (K × PV)} {kvs : List (K × Value)} (m : VMap X c h (e :: es) kvs) (k : ∀ kv r, e.1 = kv.1 → IsV X c h e.2 kv.2 → VMap X c h es r → C (kv :: r)) : C kvs := by
  obtain ⟨m1, m2⟩ := m
  cases kvs with
  | nil => cases congrArg List.length m1
  | cons kv r =>
    have m1 := List.cons_eq_cons.mp m1
    have m2 := IsVs.consP (show IsVs X c h (e.2 :: es.map (·.2)) (kv.2 :: r.map (·.2)) from m2)
    exact k kv r m1.1 m2.1 ⟨m1.2, m2.2⟩
@[elab_as_elim] theorem VMap.nilE {C : List (K × Value) → Prop} {kvs : List (K × Value)} (m : VMap X c h ([] : List (K × PV)) kvs) (k : C []) : C kvs := by
  cases kvs with
  | nil => exact k
  | cons => cases congrArg List.length m.1
theorem VMap.length {es : List (K × PV)} {kvs : List (K × Value)} (m : VMap X c h es kvs) : kvs.length = es.length := by
  have := congrArg List.length m.1
  rw [List.length_map, List.length_map] at this
  exact this.symm
theorem VMap.vat {k : K} {es : List (K × PV)} {kvs : List (K × Value)} (m : VMap X c h es kvs) : (Lm.vat es k = none ∧ valueAt kvs k = none) ∨ ∃ p v, Lm.vat es k = some p ∧ valueAt kvs k = some v ∧ IsV X c h p v := by
  induction es generalizing kvs with
  | nil => exact m.nilE (.inl ⟨rfl, rfl⟩)
  | cons e es ih =>
    refine m.consE fun kv r h1 h2 h3 => ?_
    rw [show Lm.vat (e :: es) k = _ from find_cons e es k, show valueAt (kv :: r) k = _ from find_cons kv r k, ← h1]
    by_cases hk : e.1 = k
    · rw [if_pos hk, if_pos hk]; exact .inr ⟨_, _, rfl, rfl, h2⟩
    · rw [if_neg hk, if_neg hk]; exact ih h3
theorem VMap.app {es fs : List (K × PV)} {kvs lvs : List (K × Value)} (m : VMap X c h es kvs) (n : VMap X c h fs lvs) : VMap X c h (es ++ fs) (kvs ++ lvs) :=
  ⟨by rw [List.map_append, List.map_append, m.1, n.1], by rw [List.map_append, List.map_append]; exact m.2.append n.2⟩
theorem VMap.put {k : K} {p : PV} {v : Value} (hp : IsV X c h p v) {es : List (K × PV)} {kvs : List (K × Value)} (m : VMap X c h es kvs) : VMap X c h (es.map (fun e => if e.1 = k then (e.1, p) else e)) (kvs.map fun kv => if kv.1 = k then (kv.1, v) else kv) := by
  induction es generalizing kvs with
  | nil => exact m.nilE .nil
  | cons e es ih =>
    refine m.consE fun kv r h1 h2 h3 => ?_
    show VMap X c h ((if e.1 = k then (e.1, p) else e) :: _) ((if kv.1 = k then (kv.1, v) else kv) :: _)
    rw [← h1]
    by_cases hk : e.1 = k
    · rw [if_pos hk, if_pos hk]; exact .cons rfl hp (ih h3)
    · rw [if_neg hk, if_neg hk]; exact .cons h1 h2 (ih h3)
theorem VMap.sto {k : K} {p : PV} {v : Value} (hp : IsV X c h p v) {es : List (K × PV)} {kvs : List (K × Value)} (m : VMap X c h es kvs) : VMap X c h (Lm.sto es k p) (stored kvs k v) := by
  have hany : kvs.any (fun kv => kv.1 = k) = (Lm.vat es k).isSome := by rw [← vat_any es k, m.1, List.any_map]; rfl
  unfold Lm.sto stored
  rw [hany]
  by_cases hs : (Lm.vat es k).isSome = true
  · rw [if_pos hs, if_pos hs]; exact m.put hp
  · rw [if_neg hs, if_neg hs]; exact m.app (.cons rfl hp .nil)
theorem VMap.wou {k : K} {es : List (K × PV)} {kvs : List (K × Value)} (m : VMap X c h es kvs) : VMap X c h (Lm.wou es k) (without kvs k) := by
  induction es generalizing kvs with
  | nil => exact m.nilE .nil
  | cons e es ih =>
    refine m.consE fun kv r h1 h2 h3 => ?_
    rw [show Lm.wou (e :: es) k = _ from wou_cons e es k, show without (kv :: r) k = _ from wou_cons kv r k, ← h1]
    by_cases hk : e.1 = k
    · rw [if_pos hk, if_pos hk]; exact ih h3
    · rw [if_neg hk, if_neg hk]; exact .cons h1 h2 (ih h3)
theorem VMap.mono {c' : Cfg} {h' : Heap} (P : Pres c h c' h') {es : List (K × PV)} {kvs : List (K × Value)} (m : VMap X c h es kvs) : VMap X c' h' es kvs := ⟨m.1, IsVs.mono P m.2⟩
end

/-- what a name of the base program's heap lies at -/
structure Wd (X : Cx) : Prop where
  K : X.K.In X.h₀
  G : ∃ mg, X.h₀.Ns mainGlobals mg
  B : ∃ mb, X.h₀.Ns builtinsNs mb ∧ ∀ x : Str, x ≠ "__name__" → mb x = bootBuiltins x
  lim : X.h₀.NoLimit
  sysm : Live X.h₀ sysModules

section
variable {X : Cx} {c : Cfg} {σ : St} {s : Shared} {A : Around} {E : Value → Shared → Prop} {Q : Value → Shared → Prop} {p q r : PV} {v u : Value} {h : Heap}
theorem Rep.off (W : Wd X) (R : Rep X c σ h) {a : Addr} (ha : c.M a) : (a == sysModules) = false :=
  beq_eq_false_iff_ne.mpr fun e => W.sysm.no (e ▸ R.low a ha)

noncomputable def asInts : List PV → Option (List Int)
  | [] => some []
  | p :: l => (asI p).bind fun i => (asInts l).map (i :: ·)
noncomputable def asStrs : List PV → Option (List Str)
  | [] => some []
  | p :: l => (asS p).bind fun i => (asStrs l).map (i :: ·)
noncomputable def asO : PV → Option Loc
  | .obj l => some l
  | _ => none
theorem asO_eq {p : PV} {l : Loc} (h : asO p = some l) : p = .obj l := by
  cases p with
  | obj => exact congrArg PV.obj (Option.some.inj h)
  | _ => exact nO h
noncomputable def eqV (p q : PV) : Option Bool := match p with
  | .bool a => (match q with
    | .bool b => some (a == b)
    | _ => none)
  | p => peq p q
noncomputable def ordV (f : Int → Int → Bool) (p q : PV) : Option Bool := (asI p).bind fun a => (asI q).map (f a)
noncomputable def isNoneV (p : PV) : Option Bool := match p with
  | .none => some true
  | .int _ => some false
  | .lst _ => some false
  | .inst .. => some false
  | _ => none
noncomputable def asDi : AO → Option (List (Int × PV))
  | .di es => some es
  | _ => none
theorem asDi_eq {o : AO} {es : List (Int × PV)} (h : asDi o = some es) : o = .di es := by
  cases o with
  | di => exact congrArg AO.di (Option.some.inj h)
  | _ => exact nO h
noncomputable def diAt (σ : St) (l : Loc) : Option (List (Int × PV)) := (σ.H l).bind asDi
theorem diAt_eq {σ : St} {l : Loc} {es : List (Int × PV)} (h : diAt σ l = some es) : σ.H l = some (.di es) := oB h fun o h1 h => by rw [h1, asDi_eq h]
noncomputable def inT (p : PV) (l : List PV) : Option Bool := match p with
  | .int a => (asInts l).map (·.contains a)
  | .str k => (asStrs l).map (·.contains k)
  | _ => none
noncomputable def inV (σ : St) (p q : PV) : Option Bool := match q with
  | .tup l => inT p l
  | .obj l => (asI p).bind fun a => (diAt σ l).map fun es => (vat es a).isSome
  | .dcs ks vs => (asS p).bind fun k => if ks.length = vs.length then some (ks.contains k) else none
  | _ => none
noncomputable def niV (σ : St) (p q : PV) : Option Bool := (asO q).bind fun l => (asI p).bind fun a => (diAt σ l).map fun es => !(vat es a).isSome
noncomputable def cmpv (σ : St) (op : CmpOp) (p q : PV) : Option Bool := match op with
  | .Eq => eqV p q
  | .NotEq => (peq p q).map (!·)
  | .Lt => ordV (fun a b => decide (a < b)) p q
  | .LtE => ordV (fun a b => decide (a ≤ b)) p q
  | .Gt => ordV (fun a b => decide (a > b)) p q
  | .GtE => ordV (fun a b => decide (a ≥ b)) p q
  | .Is => (asN q).bind fun _ => isNoneV p
  | .IsNot => none
  | .In => inV σ p q
  | .NotIn => niV σ p q
theorem ordV_at {f : Int → Int → Bool} {b : Bool} (e : ordV f p q = some b) {M : Model} {m : Value → Value → Sem Value} (hp : IsV X c h p v) (hq : IsV X c h q u) (k : Q (.bool b) s) (hm : ∀ i j t t', Q (.bool (f i j)) s → wpAny M A (m (.int i t) (.int j t')) Q E s) : wpAny M A (m v u) Q E s := by
  refine oB e fun i hi e => ?_
  rw [asI_eq hi] at hp
  revert k
  refine oM e fun j hj k => ?_
  rw [asI_eq hj] at hq
  exact hp.intE fun t => hq.intE fun t' => hm i j t t' k

theorem asInts_at {l : List PV} {is : List Int} {vs : List Value} (e : asInts l = some is) (f : IsVs X c h l vs) (a : Int) : (vs.any fun y => match y with | .int i _ => decide (i = a) | _ => false) = is.contains a ∧ ∀ y ∈ vs, ∃ i t, y = .int i t := by
  induction l generalizing vs is with
  | nil => exact f.nilE (oS e ⟨rfl, fun y hy => nomatch hy⟩)
  | cons p l ih =>
    refine oB (show (asI p).bind _ = some is from e) fun i hi e => oM e fun js e1 => ?_
    refine f.consE fun v r f1 f2 => ?_
    rw [asI_eq hi] at f1
    obtain ⟨g1, g2⟩ := ih e1 f2
    refine f1.intE fun t => ⟨?_, List.forall_mem_cons.mpr ⟨⟨i, t, rfl⟩, g2⟩⟩
    rw [List.any_cons, g1, List.contains_cons, bqD a i, decide_eq_decide.mpr (eq_comm (a := a))]
theorem asStrs_at {l : List PV} {is : List Str} {vs : List Value} (e : asStrs l = some is) (f : IsVs X c h l vs) (a : Str) : (vs.any fun y => match y with | .str i _ => decide (i = a) | _ => false) = is.contains a ∧ ∀ y ∈ vs, ∃ i t, y = .str i t := by
  induction l generalizing vs is with
  | nil => exact f.nilE (oS e ⟨rfl, fun y hy => nomatch hy⟩)
  | cons p l ih =>
    refine oB (show (asS p).bind _ = some is from e) fun i hi e => oM e fun js e1 => ?_
    refine f.consE fun v r f1 f2 => ?_
    rw [asS_eq hi] at f1
    obtain ⟨g1, g2⟩ := ih e1 f2
    refine f1.strE fun t => ⟨?_, List.forall_mem_cons.mpr ⟨⟨i, t, rfl⟩, g2⟩⟩
    rw [List.any_cons, g1, List.contains_cons, bqD a i, decide_eq_decide.mpr (eq_comm (a := a))]

theorem valueAt_zip (k : Str) {ks : List Str} {ws : List Value} (e : ws.length = ks.length) : (valueAt (List.zip ks ws) k).isSome = ks.contains k := by
  induction ks generalizing ws with
  | nil => rfl
  | cons j ks ih =>
    cases ws with
    | nil => cases e
    | cons w ws =>
      rw [List.zip_cons_cons, show valueAt ((j, w) :: List.zip ks ws) k = _ from find_cons (j, w) _ k, List.contains_cons, ← ih (Nat.succ.inj e), bqD k j]
      by_cases hj : j = k
      · rw [if_pos hj, decide_eq_true hj.symm]; rfl
      · rw [if_neg hj, decide_eq_false (Ne.symm hj)]; rfl
theorem keyI (prog : Program) (w : World) (i : Int) (t : Tok) : (intKind prog w).is i (.int i t) = true := by simp [intKind, Value.isInt]
theorem keyS (prog : Program) (w : World) (i : Str) (t : Tok) : (PySem.strKind prog w).is i (.str i t) = true := by simp [PySem.strKind, Value.isStr, Value.isStrOf]

/-- == -/
theorem op_eq {b : Bool} (hu : A.units + dep p < cLine) (e : peq p q = some b) (hp : IsV X c s.heap p v) (hq : IsV X c s.heap q u) : Q (.bool b) s →
    wpAny (model X.prog X.w) A (compareOp .Eq v u) Q E s := by
  cases p with
  | none => exact hp.noneE (peqN (C := fun q b => IsV X c s.heap q u → Q (.bool b) s → _) e (fun hq k => hq.noneE (EqNone.eq_none_none k)) hq)
  | int i => exact hp.intE fun t => peqI (C := fun q b => IsV X c s.heap q u → Q (.bool b) s → _) e (fun j hq k => hq.intE fun t' => eq_int (by rw [bqD]; exact k)) hq
  | str i => exact hp.strE fun t => peqS (C := fun q b => IsV X c s.heap q u → Q (.bool b) s → _) e (fun j hq k => hq.strE fun t' => eq_str (by rw [bqD]; exact k)) hq
  | bytes i => exact hp.bytesE fun t => peqB (C := fun q b => IsV X c s.heap q u → Q (.bool b) s → _) e (fun j hq k => hq.bytesE fun t' => eq_bytes (by rw [bqD, decide_eq_decide.mpr Array.toList_inj]; exact k)) hq
  | tup l => exact hp.tupE fun a vs n h1 _ f => peqT (C := fun q b => IsV X c s.heap q u → Q (.bool b) s → _) e (fun m e hq k => hq.tupE fun a' us n' h2 _ g => cmp_ofEq (rcT h1 h2 (dep_in hu).1 (peqs_at A.in1 s e f g (dep_in hu).2) _ _ _ _ k)) hq
  | lst l => exact hp.lstE fun a vs n h1 _ f => peqL (C := fun q b => IsV X c s.heap q u → Q (.bool b) s → _) e (fun m e hq k => hq.lstE fun a' us n' h2 _ g => cmp_ofEq (rcL h1 h2 (dep_in hu).1 (peqs_at A.in1 s e f g (dep_in hu).2) _ _ _ _ k)) hq
  | _ => exact nO e
theorem op_ne {b : Bool} (hu : A.units + dep p < cLine) (e : peq p q = some b) (hp : IsV X c s.heap p v) (hq : IsV X c s.heap q u) : Q (.bool (!b)) s →
    wpAny (model X.prog X.w) A (compareOp .NotEq v u) Q E s := by
  cases p with
  | none => exact hp.noneE (peqN (C := fun q b => IsV X c s.heap q u → Q (.bool (!b)) s → _) e (fun hq k => hq.noneE (SeqAt.RcNeAt.none_none _ _ _ _ k)) hq)
  | int i => exact hp.intE fun t => peqI (C := fun q b => IsV X c s.heap q u → Q (.bool (!b)) s → _) e (fun j hq k => hq.intE fun t' => ne_int (by rw [bne, bqD]; exact k)) hq
  | str i => exact hp.strE fun t => peqS (C := fun q b => IsV X c s.heap q u → Q (.bool (!b)) s → _) e (fun j hq k => hq.strE fun t' => SeqAt.RcNeAt.str_str _ _ _ _ _ _ _ _ (by rw [bqD]; exact k)) hq
  | bytes i => exact hp.bytesE fun t => peqB (C := fun q b => IsV X c s.heap q u → Q (.bool (!b)) s → _) e (fun j hq k => hq.bytesE fun t' => ne_bytes (by rw [bne, bqD, decide_eq_decide.mpr Array.toList_inj]; exact k)) hq
  | tup l => exact hp.tupE fun a vs n h1 _ f => peqT (C := fun q b => IsV X c s.heap q u → Q (.bool (!b)) s → _) e (fun m e hq k => hq.tupE fun a' us n' h2 _ g => rnT h1 h2 (dep_in hu).1 (peqs_at A.in1 s e f g (dep_in hu).2) _ _ _ _ k) hq
  | lst l => exact hp.lstE fun a vs n h1 _ f => peqL (C := fun q b => IsV X c s.heap q u → Q (.bool (!b)) s → _) e (fun m e hq k => hq.lstE fun a' us n' h2 _ g => rnL h1 h2 (dep_in hu).1 (peqs_at A.in1 s e f g (dep_in hu).2) _ _ _ _ k) hq
  | _ => exact nO e

theorem op_in_tup {b : Bool} {l : List PV} (e : inT p l = some b) (hp : IsV X c s.heap p v) (hq : IsV X c s.heap (.tup l) u) : Q (.bool b) s → wpAny (model X.prog X.w) A (compareOp .In v u) Q E s := by
  cases p with
  | int i =>
    refine oM (show (asInts l).map _ = some b from e) fun is e1 k => hp.intE fun t => hq.tupE fun a vs n h1 _ f => ?_
    obtain ⟨g1, g2⟩ := asInts_at e1 f i
    refine SeqAt.in_tupleAt (fun y => match y with | .int j _ => decide (j = i) | _ => false) (isTup h1) (fun y hy => ?_) (by rw [← Array.any_toList, g1]; exact k)
    obtain ⟨j, t', rfl⟩ := g2 y (Array.mem_toList_iff.mpr hy)
    have := SeqAt.EqAt.int_int (A := A.in1) (s := s) j t' i t
    rw [bqD] at this; exact this
  | str i =>
    refine oM (show (asStrs l).map _ = some b from e) fun is e1 k => hp.strE fun t => hq.tupE fun a vs n h1 _ f => ?_
    obtain ⟨g1, g2⟩ := asStrs_at e1 f i
    refine SeqAt.in_tupleAt (fun y => match y with | .str j _ => decide (j = i) | _ => false) (isTup h1) (fun y hy => ?_) (by rw [← Array.any_toList, g1]; exact k)
    obtain ⟨j, t', rfl⟩ := g2 y (Array.mem_toList_iff.mpr hy)
    have := SeqAt.EqAt.str_str (A := A.in1) (s := s) j t' i t
    rw [bqD] at this; exact this
  | _ => exact nO e
/-- the dict of ints that a number names -/
theorem di_at (W : Wd X) (R : Rep X c σ s.heap) {l : Loc} {es : List (Int × PV)} (e : diAt σ l = some es) (hq : IsV X c s.heap (.obj l) u) : ∃ d kvs, u = .ref d ∧ (d == sysModules) = false ∧ s.heap.DictOf (intKind X.prog X.w) d kvs ∧ ∀ i, (valueAt kvs i).isSome = (vat es i).isSome :=
  hq.objE fun a d hr => by
    obtain ⟨hM, rfl, kvs, hdo, hv⟩ := R.at (diAt_eq e) hr
    exact ⟨_, kvs, rfl, R.off W hM, hdo, fun i => (hv.vat (k := i)).elim (fun g => by rw [g.1, g.2]; rfl) fun ⟨p, v, g1, g2, _⟩ => by rw [g1, g2]; rfl⟩
theorem op_cmp {op : CmpOp} {b : Bool} (W : Wd X) (R : Rep X c σ s.heap) (hu : A.units + dep p < cLine) (e : cmpv σ op p q = some b) (hp : IsV X c s.heap p v) (hq : IsV X c s.heap q u) (k : ∀ tk, Q (.bool b) { s with toks := tk }) :
    wpAny (model X.prog X.w) A (compareOp op v u) Q E s := by
  cases op with
  | Eq =>
    cases p with
    | bool a => cases q with
      | bool d => revert k; exact oS e fun k => hp.boolE (hq.boolE (eq_bool (k s.toks)))
      | _ => exact nO e
    | _ => exact op_eq hu e hp hq (k s.toks)
  | NotEq =>
    revert k
    exact oM e fun b e1 k => op_ne hu e1 hp hq (k s.toks)
  | Lt => exact ordV_at e hp hq (k s.toks) fun _ _ _ _ => lt_int
  | LtE => exact ordV_at e hp hq (k s.toks) fun _ _ _ _ => le_int
  | Gt => exact ordV_at e hp hq (k s.toks) fun _ _ _ _ => gt_int
  | GtE => exact ordV_at e hp hq (k s.toks) fun _ _ _ _ => ge_int
  | Is =>
    refine oB e fun _ hn e => ?_
    rw [asN_eq hn] at hq
    refine hq.noneE (is_none_gen ?_)
    have k := k s.toks
    revert k
    cases p with
    | none => exact oS e fun k => hp.noneE k
    | int => exact oS e fun k => hp.intE fun _ => k
    | lst => exact oS e fun k => hp.lstE fun _ _ _ _ _ _ => k
    | inst => exact oS e fun k => hp.instE fun _ _ _ _ _ _ _ _ _ _ _ _ => k
    | _ => exact nO e
  | IsNot => exact nO e
  | In =>
    cases q with
    | tup l => exact op_in_tup e hp hq (k s.toks)
    | obj l =>
      refine oB (show (asI p).bind _ = some b from e) fun i hi e => ?_
      rw [asI_eq hi] at hp
      revert k
      refine oM e fun es hes k => hp.intE fun t => ?_
      obtain ⟨d, kvs, rfl, h0, h1, h2⟩ := di_at W R hes hq
      exact wpAny_in_of (knd := intKind X.prog X.w) (k := i) (keyI _ _ i t) h0 h1.mapOf (by rw [h2]; exact k _)
    | dcs ks ps =>
      refine oB (show (asS p).bind _ = some b from e) fun i hi e => ?_
      rw [asS_eq hi] at hp
      revert k
      refine oIs e fun hlen k => hp.strE fun t => hq.dcsE fun a ws h0 h1 h2 h3 => ?_
      refine wpAny_in_of (knd := PySem.strKind X.prog X.w) (k := i) (f := valueAt (List.zip ks ws)) (keyS _ _ i t) h0 h1.mapOf ?_
      rw [valueAt_zip i (h3.length.trans hlen.symm)]
      exact k _
    | _ => exact nO e
  | NotIn =>
    refine oB e fun l hl e => oB e fun i hi e => ?_
    rw [asI_eq hi] at hp
    rw [asO_eq hl] at hq
    revert k
    refine oM e fun es hes k => hp.intE fun t => ?_
    obtain ⟨d, kvs, rfl, h0, h1, h2⟩ := di_at W R hes hq
    exact wpAny_notIn_of (knd := intKind X.prog X.w) (k := i) (keyI _ _ i t) h0 h1.mapOf (by rw [h2]; exact k _)
end
end Lm
end
section
open PySem PySem.W PyProof.Rows
set_option Elab.async false
set_option autoImplicit false
set_option linter.unusedVariables false
set_option linter.unusedSectionVars false
set_option linter.unusedSimpArgs false
set_option tactic.hygienic false
namespace Lm

noncomputable def headO {α : Type} : List α → Option (α × List α)
  | [] => none
  | a :: l => some (a, l)
theorem headO_eq {α : Type} {l : List α} {x : α × List α} (h : headO l = some x) : l = x.1 :: x.2 := by
  cases l with
  | nil => exact nO h
  | cons => exact oS h rfl
noncomputable def nilO {α : Type} : List α → Option Unit
  | [] => some ()
  | _ :: _ => none
theorem nilO_eq {α : Type} {l : List α} {x : Unit} (h : nilO l = some x) : l = [] := by
  cases l with
  | nil => rfl
  | cons => exact nO h
noncomputable def twoO {α : Type} (l : List α) : Option (α × α) := (headO l).bind fun a => (headO a.2).bind fun b => (nilO b.2).map fun _ => (a.1, b.1)
theorem twoO_eq {α : Type} {l : List α} {x : α × α} (h : twoO l = some x) : l = [x.1, x.2] :=
  oB h fun a h1 h => oB h fun b h2 h => oM h fun _ h3 => by rw [headO_eq h1, headO_eq h2, nilO_eq h3]
noncomputable def asTT (p : PV) : Option (PV × PV) := (asT p).bind twoO
theorem asTT_eq {p : PV} {x : PV × PV} (h : asTT p = some x) : p = .tup [x.1, x.2] := oB h fun l h1 h => by rw [asT_eq h1, twoO_eq h]
noncomputable def asIB (p : PV) : Option (Int × Array UInt8) := (asTT p).bind fun x => (asI x.1).bind fun i => (asB x.2).map fun b => (i, b)
theorem asIB_eq {p : PV} {x : Int × Array UInt8} (h : asIB p = some x) : p = .tup [.int x.1, .bytes x.2] :=
  oB h fun _ h1 h => oB h fun _ h2 h => oM h fun _ h3 => by rw [asTT_eq h1, asI_eq h2, asB_eq h3]
noncomputable def asNK (p : PV) : Option NK := (asTT p).bind fun x => (asIB x.1).bind fun a => (asIB x.2).map fun b => (a, b)
theorem asNK_eq {p : PV} {k : NK} (e : asNK p = some k) : p = nkPV k :=
  oB e fun _ h1 h => oB h fun _ h2 h => oM h fun _ h3 => by rw [asTT_eq h1, asIB_eq h2, asIB_eq h3]; rfl
theorem asNK_nk (k : NK) : asNK (nkPV k) = some k := rfl

noncomputable def atL (l : List PV) (i : Int) : Option PV := if 0 ≤ i ∧ i < 2 ^ 63 then l[i.toNat]? else none
noncomputable def atO (o : AO) (q : PV) : Option PV := match o with
  | .lst l => (asI q).bind (atL l)
  | .di es => (asI q).bind (vat es)
  | .ds es => (asS q).bind (vat es)
  | .dn es => (asNK q).bind (vat es)
  | .inst .. => none
noncomputable def subv (σ : St) (p q : PV) : Option PV := match p with
  | .bytes b => (asI q).bind fun i => if 0 ≤ i ∧ i < b.size ∧ b.size ≤ 1099511627776 then some (.int (b.toList.getD i.toNat 0).toNat) else none
  | .tup l => (asI q).bind (atL l)
  | .lst l => (asI q).bind (atL l)
  | .dcs ks vs => (asS q).bind fun k => (List.zip ks vs).lookup k
  | .obj l => (σ.H l).bind fun o => atO o q
  | _ => none

noncomputable def slcv (p : PV) (lo hi : Option Int) : Option PV := match p with
  | .bytes b => if b.size ≤ 16777216 then some (.bytes (((b.toList.drop (lo.elim 0 (clipAt b.size))).take (hi.elim b.size (clipAt b.size) - lo.elim 0 (clipAt b.size))).toArray)) else none
  | .lst l => if l.length ≤ 16777216 then some (.lst ((l.drop (lo.elim 0 (clipAt l.length))).take (hi.elim l.length (clipAt l.length) - lo.elim 0 (clipAt l.length)))) else none
  | .tup l => lo.bind fun k => if hi = none ∧ 1 ≤ k ∧ k ≤ l.length ∧ l.length ≤ 16777216 then some (.tup (l.drop k.toNat)) else none
  | _ => none

section
variable {X : Cx} {c : Cfg} {σ : St} {s : Shared} {A : Around} {E : Value → Shared → Prop} {Q : Value → Shared → Prop} {p q r : PV} {v u : Value} {h : Heap}

theorem subscripted_eq (slice : Expr) (o i : Value) : ∃ l, subscripted slice false o i = operate l (getItem o i) := by
  cases slice with
  | Slice l u st p => cases st with
    | none => exact ⟨_, rfl⟩
    | some => exact ⟨_, rfl⟩
  | _ => exact ⟨_, rfl⟩
theorem sub_tail {prog : Program} {w : World} {value slice : Expr} {o i : Value} (h : ItemOn (model prog w) A E o i Q s) : wpAny (model prog w) A (subscriptTail value slice o i) Q E s := by
  obtain ⟨T, id, hl, hT, hg⟩ := h
  unfold subscriptTail
  refine wpAny_bind ?_
  rw [getitemInPython_of_ne hT.not_modules]
  refine wpAny_bind (wpAny_specialOf hT hl ?_)
  have hgo : wpAny (model prog w) A (getItem o i) (fun r s₃ => wpAny (model prog w) A (letTemporaryGo value o r >>= fun _ => pure r) Q E s₃) E s :=
    wpAny_mono hg (fun r s₃ h₃ => wpAny_bind (wpAny_letTemporaryGo (wpAny_pure h₃))) fun _ _ x => x
  obtain ⟨l, e⟩ := subscripted_eq slice o i
  refine wpAny_pure (wpAny_bind ?_)
  rw [e]
  exact wpAny_operating hgo

theorem isTup' {a : Addr} {vs : Array Value} {n : Nat} (e : s.heap.get? a = some (tupObj vs n)) : IsTup s.heap a vs := ⟨_, e, rfl, n, rfl⟩
theorem lookup_zip {ks : List Str} {ws : List Value} {vs : List PV} {k : Str} {p : PV} (f : IsVs X c h vs ws) (e : (List.zip ks vs).lookup k = some p) : ∃ v, (List.zip ks ws).lookup k = some v ∧ IsV X c h p v := by
  induction ks generalizing ws vs with
  | nil => exact nO e
  | cons j ks ih =>
    cases vs with
    | nil => exact nO e
    | cons x vs =>
      refine f.consE fun w r f1 f2 => ?_
      rw [List.zip_cons_cons, List.lookup_cons] at e ⊢
      cases hj : k == j with
      | true => rw [hj] at e; exact ⟨w, rfl, Option.some.inj e ▸ f1⟩
      | false => rw [hj] at e; exact ih f2 e
theorem valueAt_lookup {K : Type} [DecidableEq K] (k : K) (l : List (K × Value)) : valueAt l k = @List.lookup K Value instBEqOfDecidableEq k l := by
  induction l with
  | nil => rfl
  | cons e l ih =>
    rw [show valueAt (e :: l) k = _ from find_cons e l k, List.lookup_cons]
    by_cases hk : e.1 = k
    · rw [if_pos hk, show (k == e.1) = true from decide_eq_true hk.symm]
    · rw [if_neg hk, show (k == e.1) = false from decide_eq_false (Ne.symm hk)]; exact ih
/-- the names dict: its pairs -/
theorem dn_map {es : List (NK × PV)} {xs : List (NK × Addr × Value)} (h1 : es.map (·.1) = xs.map (·.1)) (h2 : IsVs X c h (es.map (·.2)) (xs.map (·.2.2))) : VMap X c h es (xs.map fun x => (x.1, x.2.2)) :=
  ⟨by rw [h1, List.map_map]; rfl, by rw [List.map_map]; exact h2⟩
theorem atKey_valueAt (k : NK) (xs : List (NK × Addr × Value)) : valueAt (xs.map fun x => (x.1, x.2.2)) k = (atKey xs k).map (·.2) := by
  induction xs with
  | nil => rfl
  | cons e es ih =>
    rw [List.map_cons, show valueAt ((e.1, e.2.2) :: es.map fun x => (x.1, x.2.2)) k = if e.1 = k then some e.2.2 else valueAt (es.map fun x => (x.1, x.2.2)) k from find_cons _ _ k, ih, show atKey (e :: es) k = if e.1 = k then some e.2 else atKey es k from find_cons e es k]
    by_cases hk : e.1 = k
    · rw [if_pos hk, if_pos hk]; rfl
    · rw [if_neg hk, if_neg hk]
theorem VMap.at {K : Type} [DecidableEq K] {k : K} {p : PV} {es : List (K × PV)} {kvs : List (K × Value)} (m : VMap X c h es kvs) (e : Lm.vat es k = some p) : ∃ v, valueAt kvs k = some v ∧ IsV X c h p v :=
  m.vat.elim (fun g => nO (g.1.symm.trans e)) fun ⟨p', v, g1, g2, g3⟩ => ⟨v, g2, Option.some.inj (g1.symm.trans e) ▸ g3⟩
/-- an item of a list that lies at a -/
theorem sub_lst {value slice : Expr} {a : Addr} {vs : Array Value} {n : Nat} {l : List PV} {i : Int} {t : Tok} (h1 : s.heap.get? a = some (lstObj vs n)) (f : IsVs X c s.heap l vs.toList) (e : atL l i = some r) (k : ∀ v' tk, IsV X c s.heap r v' → Q v' { s with toks := tk }) :
    wpAny (model X.prog X.w) A (subscriptTail value slice (.ref a) (.int i t)) Q E s :=
  oI e fun hb e2 => by
    obtain ⟨v', f1, f2⟩ := f.get e2
    rw [Array.getElem?_toList] at f1
    exact sub_tail ⟨"list", _, slot_list_getitem.lookup, (isLst h1).typeIs, wpAny_getItem_list (isLst h1) hb.1 hb.2 f1 (k _ s.toks f2)⟩

theorem op_sub {value slice : Expr} (R : Rep X c σ s.heap) (hu : A.units + 4 < cLine) (e : subv σ p q = some r) (hp : IsV X c s.heap p v) (hq : IsV X c s.heap q u)
    (k : ∀ v' tk, IsV X c s.heap r v' → Q v' { s with toks := tk }) : wpAny (model X.prog X.w) A (subscriptTail value slice v u) Q E s := by
  cases p with
  | bytes b =>
    refine oB e fun i hi e1 => ?_
    rw [asI_eq hi] at hq
    revert k
    refine oIs e1 fun hb k => hp.bytesE fun t => hq.intE fun t' => ?_
    refine sub_tail ⟨"bytes", _, FB.slot_bytes_getitem.lookup, typeIs_bytes _ _ _, ?_⟩
    have := getItem_bytes (prog := X.prog) (w := X.w) (A := A) (E := E) (s := s) (t := t) (u := t') (l := b.toList) (i := i) (Q := Q) (by rw [Array.length_toList]; exact hb.2.2) hb.1 (by rw [Array.length_toList]; exact hb.2.1) (k _ _ .int')
    rw [Array.toArray_toList] at this; exact this
  | tup l =>
    refine oB e fun i hi e1 => oI e1 fun hb e2 => ?_
    rw [asI_eq hi] at hq
    refine hp.tupE fun a vs n h1 _ f => hq.intE fun t' => ?_
    obtain ⟨v', f1, f2⟩ := f.get e2
    rw [Array.getElem?_toList] at f1
    have hlt := (Array.getElem?_eq_some_iff.mp f1).1
    exact sub_tail ⟨"tuple", _, slot_tuple_getitem.lookup, (isTup' h1).typeIs, getItem_tuple (isTup' h1) (by lia) hb.2 (seqIndex_of hb.1 (by lia)) f1 (k _ s.toks f2)⟩
  | lst l =>
    refine oB e fun i hi e1 => ?_
    rw [asI_eq hi] at hq
    exact hp.lstE fun a vs n h1 _ f => hq.intE fun t' => sub_lst h1 f e1 k
  | dcs ks vs =>
    refine oB e fun i hi e2 => ?_
    rw [asS_eq hi] at hq
    refine hp.dcsE fun a ws h0 h1 h2 h3 => hq.strE fun t' => ?_
    obtain ⟨v', g1, g2⟩ := lookup_zip h3 e2
    exact sub_tail ⟨"dict", _, slot_dict_getitem.lookup, h1.mapOf.typeIs, wpAny_getItem_of (knd := PySem.strKind X.prog X.w) (k := i) (keyS _ _ i t') h1.mapOf ((valueAt_lookup _ _).trans g1) (k _ _ g2)⟩
  | obj l =>
    refine oB e fun o hH e0 => hp.objE fun a d hr => ?_
    have ho := (R.at hH hr).2
    clear e hp
    cases o with
    | lst vs =>
      refine oB e0 fun i hi e1 => ?_
      rw [asI_eq hi] at hq
      obtain ⟨rfl, ws, n, h1, h2⟩ := ho
      exact hq.intE fun t' => sub_lst h1 h2 e1 k
    | di es =>
      refine oB e0 fun i hi e2 => ?_
      rw [asI_eq hi] at hq
      obtain ⟨rfl, kvs, h1, h2⟩ := ho
      obtain ⟨v', g2, g3⟩ := h2.at e2
      exact hq.intE fun t' => sub_tail ⟨"dict", _, slot_dict_getitem.lookup, h1.mapOf.typeIs, wpAny_getItem_of (knd := intKind X.prog X.w) (k := i) (keyI _ _ i t') h1.mapOf g2 (k _ _ g3)⟩
    | ds es =>
      refine oB e0 fun i hi e2 => ?_
      rw [asS_eq hi] at hq
      obtain ⟨rfl, kvs, h1, h2⟩ := ho
      obtain ⟨v', g2, g3⟩ := h2.at e2
      exact hq.strE fun t' => sub_tail ⟨"dict", _, slot_dict_getitem.lookup, h1.mapOf.typeIs, wpAny_getItem_of (knd := PySem.strKind X.prog X.w) (k := i) (keyS _ _ i t') h1.mapOf g2 (k _ _ g3)⟩
    | dn es =>
      refine oB e0 fun nk e1 e2 => ?_
      obtain ⟨rfl, xs, h1, h0, h2, h3⟩ := ho
      rw [asNK_eq e1] at hq
      obtain ⟨b, rfl, hk⟩ := hq.isNK
      obtain ⟨v', g2, g3⟩ := (dn_map h2 h3).at e2
      rw [atKey_valueAt, Option.map_eq_some_iff] at g2
      obtain ⟨pr, g2, rfl⟩ := g2
      exact sub_tail ⟨"dict", _, slot_dict_getitem.lookup, h1.typeIs, wpAny_getItem_heap (knd := nkKind X.prog X.w) (by show A.units + 1 + 2 < cLine; lia) hk h1 g2 (k _ _ g3)⟩
    | inst => exact nO e0
  | _ => exact nO e

/-- a slice: its object lies at the heap's end -/
theorem op_slc {value slice : Expr} {lo hi : Option Int} {l v₂ : Value} (F : Fresh c s.heap) (e : slcv p lo hi = some r) (hp : IsV X c s.heap p v) (hl : IsPart l lo) (hh : IsPart v₂ hi) (k : Pu X c s r Q) :
    wpAny (model X.prog X.w) A (subscriptTail value slice v (.ref s.heap.objs.size)) Q E { s with heap := s.heap.push { cls := .type "slice", data := .fields #[l, v₂, .none] } } := by
  have G := Gr.push (h := s.heap) { cls := .type "slice", data := .fields #[l, v₂, .none] }
  have hs := Heap.IsSliceOf.new s.heap l v₂ .none
  have h0 := hp.gr G
  revert k
  cases p with
  | bytes b =>
    refine oIs e fun hsz k => hp.bytesE fun t => ?_
    refine sub_tail ⟨"bytes", _, FB.slot_bytes_getitem.lookup, typeIs_bytes _ _ _, getItem_meets (typeIs_bytes _ _ _) (by decide) FB.slot_bytes_getitem FB.entry_bytes_getitem (FB.args_bytes_getitem_2 _ _) (KBc.meets_slice2 b t _ hl hh) ⟨hs, Nat.le_trans (KBc.size_picked_le b lo hi) (by rw [sizeLine_eq]; exact hsz), fun t' tk => ?_⟩⟩
    rw [KBc.picked_eq]
    exact k _ _ _ G .bytes'
  | lst ps =>
    refine oIs e fun hsz k => h0.lstE fun a vs n h1 _ f => ?_
    have hlen : vs.size = _ := f.length
    refine sub_tail ⟨"list", _, slot_list_getitem.lookup, (isLst h1).typeIs, wpAny_getItem_list_slice (isLst h1) hs hl hh .none (fun h => nO' h.symm) ?_ (by rw [sizeLine_eq, hlen]; exact hsz)⟩
    have hn := IsV.newL (F.gr G) (IsVs.take (hi.elim ps.length (clipAt ps.length) - lo.elim 0 (clipAt ps.length)) (IsVs.drop (lo.elim 0 (clipAt ps.length)) f))
    rw [slicePick_plain, hlen]
    exact k _ _ _ (G.trans (Gr.push _)) hn
  | tup ps =>
    refine oB (show lo.bind _ = some r from e) fun i hi1 e => oIs e fun hb k => h0.tupE fun a vs n h1 _ f => ?_
    have hlen : vs.size = _ := f.length
    rw [hi1] at hl
    rw [hb.1] at hh
    cases hl with | int i t =>
    cases hh
    have hi : i = ((i.toNat : Nat) : Int) := (Int.toNat_of_nonneg (by lia)).symm
    exact sub_tail ⟨"tuple", _, slot_tuple_getitem.lookup, (isTup' h1).typeIs, getItem_tuple_from (a := i.toNat) (u := t) (isTup' h1) (by rw [← hi]; exact hs) (by lia) (by rw [hlen]; exact Int.toNat_le.mpr hb.2.2.1) (k _ _ _ (G.trans (Gr.push _)) (IsV.newT (F.gr G) (IsVs.drop i.toNat f))) (by rw [sizeLine_eq, hlen]; exact hb.2.2.2)⟩
  | _ => exact nO e
end
end Lm
end
section
open PySem PySem.W PyProof.Rows
set_option Elab.async false
set_option autoImplicit false
set_option linter.unusedVariables false
set_option linter.unusedSectionVars false
set_option linter.unusedSimpArgs false
set_option tactic.hygienic false
namespace Lm

inductive Bi where
  | len | int | max | min | bytes | tuple
noncomputable def Bi.val : Bi → Value
  | .len => .builtin "len" | .int => .type "int" | .max => .builtin "max" | .min => .builtin "min" | .bytes => .type "bytes" | .tuple => .type "tuple"

noncomputable def byteOk (n : Int) : Bool := decide (0 ≤ n) && decide (n < 256)

noncomputable def oneO {α : Type} (l : List α) : Option α := (headO l).bind fun a => (nilO a.2).map fun _ => a.1
theorem oneO_eq {α : Type} {l : List α} {a : α} (h : oneO l = some a) : l = [a] := oB h fun b h1 h => oM h fun _ h2 => by rw [headO_eq h1, nilO_eq h2]
noncomputable def two2 (f : Int → Int → Int) (ps : List PV) : Option PV := (twoO ps).bind fun x => (asI x.1).bind fun a => (asI x.2).map fun b => .int (f a b)
noncomputable def lenO (o : AO) : Option Nat := match o with
  | .lst l => if l.length ≤ 16777216 then some l.length else none
  | .dn es => if es.length ≤ 16777216 then some es.length else none
  | .di es => if es.length ≤ 16777216 then some es.length else none
  | .ds _ => none
  | .inst .. => none
noncomputable def lenV (σ : St) (p : PV) : Option PV := match p with
  | .bytes b => if b.size ≤ 1099511627776 then some (.int b.size) else none
  | .lst l => if l.length ≤ 16777216 then some (.int l.length) else none
  | .obj p => (σ.H p).bind fun o => (lenO o).map fun (n : Nat) => PV.int n
  | _ => none
noncomputable def intV (p : PV) : Option PV := match p with
  | .int i => some (.int i)
  | .bool b => some (.int (if b then 1 else 0))
  | _ => none
noncomputable def bytV (p : PV) : Option PV := match p with
  | .lst l => (asInts l).bind fun is => if is.all byteOk ∧ is.length ≤ 16777216 then some (.bytes (byteArr is)) else none
  | .bytes b => some (.bytes b)
  | _ => none
noncomputable def tupV (p : PV) : Option PV := match p with
  | .lst l => if l.length ≤ 16777216 then some (.tup l) else none
  | .tup l => some (.tup l)
  | _ => none
noncomputable def bcall (σ : St) (b : Bi) (ps : List PV) : Option PV := match b with
  | .len => (oneO ps).bind (lenV σ)
  | .int => (oneO ps).bind intV
  | .max => two2 (fun a b => if b > a then b else a) ps
  | .min => two2 (fun a b => if b < a then b else a) ps
  | .bytes => (oneO ps).bind bytV
  | .tuple => (oneO ps).bind tupV

section
variable {X : Cx} {c : Cfg} {σ : St} {s : Shared} {A : Around} {E : Value → Shared → Prop} {Q : Value → Shared → Prop} {p q r : PV} {v u : Value} {h : Heap}

theorem asInts_are {l : List PV} {is : List Int} {vs : List Value} (e : asInts l = some is) (f : IsVs X c h l vs) : IntsAre vs is := by
  induction l generalizing vs is with
  | nil => exact f.nilE (oS e .nil)
  | cons p l ih =>
    refine oB (show (asI p).bind _ = some is from e) fun i hi e => oM e fun js e1 => f.consE fun v r f1 f2 => ?_
    rw [asI_eq hi] at f1
    exact f1.intE fun t => .cons i t (ih e1 f2)

theorem bytes_bytes : typeLookup (.type "bytes") "__bytes__" = pure (some (.builtin "bytes.__bytes__")) := by rw [typeLookup_type, builtinLookup_eq_fast]; kernel_rfl
theorem bytes_same {b : Array UInt8} {t : Tok} (k : Q (.bytes b t) s) : wpAny (model X.prog X.w) A (call (.type "bytes") [.bytes b t]) Q E s := by
  refine callType_codes (Q₁ := fun obj s₁ => s₁.TypeIs obj "bytes" ∧ Q obj s₁) F.bm_called (F.bm_typeCall _) F.entry_object_init ?_ fun obj s₁ h₁ => ?_
  · refine codeAny_of_tree ?_
    show wpAny _ A.in1.in1 (do checkBuiltinCall "bytes.__new__" ⟨[.type "bytes", .bytes b t], []⟩; again (.builtin "bytes.__new__" ⟨[.type "bytes", .bytes b t], []⟩)) _ _ s
    refine wpAny_bind (wpAny_of_eq (F.bm_newCall _) (wpAny_pure ⟨plainId_quiet F.bm_plain _, codeAny_builtin F.bm_entry ?_⟩))
    rw [Around.under_plainId F.bm_plain _]
    unfold Builtin.«bytes.__new__»
    refine wpAny_bind (wpAny_of_eq (a := true) rfl ?_)
    refine bm_if_false rfl ?_
    refine wpAny_bind (wpAny_of_eq F.bm_sub ?_)
    refine bm_if_false rfl ?_
    refine wpAny_bind (wpAny_of_eq (F.bm_bind _) ?_)
    refine wpAny_bind (wpAny_of_eq (a := ()) rfl ?_)
    refine wpAny_bind (wpAny_of_eq (a := ()) rfl ?_)
    refine bm_if_false rfl ?_
    refine wpAny_bind (wpAny_of_eq (KBy.special_eq bytes_bytes) ?_)
    refine wpAny_bind (wpAny_rule ?_)
    refine wpAny_bind (wpAny_typeOf (typeIs_bytes _ _ _) ?_)
    refine bm_if_true rfl ?_
    first
      | exact wpAny_bind (m := ret (.bytes b t)) (wpAny_pure (wpAny_pure ⟨typeIs_bytes _ _ _, k⟩))
      | exact wpAny_pure ⟨typeIs_bytes _ _ _, k⟩
      | trace_state
  · exact ⟨h₁.1, F.args_object_init_2 obj _, object_init_meets F.bm_called.init.lookup F.bm_called.made (by decide) _ _ A.in1 _ s₁ ⟨h₁.1, rfl, h₁.2⟩⟩

theorem len_dictH {K : Type} [DecidableEq K] {knd : HeapKind X.prog X.w K} {d : Addr} {xs : List (K × Addr × Value)} (hd : (d == sysModules) = false) (hm : s.heap.DictOfH knd d xs) (hz : xs.length ≤ 16777216)
    (k : Q (.int xs.length (s.toks + 1)) { s with toks := s.toks + 1 + 1 }) : wpAny (model X.prog X.w) A (call (.builtin "len") [.ref d]) Q E s := by
  refine Calls.call_function_entry kind_len plain_len entry_len (args_len1 _) ?_
  unfold Builtin.«len»
  refine wpAny_bind (m := oneArg "len" _) (wpAny_pure ?_)
  have g : MeetsIn X.prog X.w (Builtin.«dict.__len__» ⟨[.ref d], []⟩) (fun _ R s => ∃ xs, s.heap.DictOfH knd d xs ∧ R (.ok (.ret (.int xs.length s.toks))) { s with toks := s.toks + 1 }) :=
    .of_wp fun A R s ⟨kvs, hm, h⟩ => by
      obtain ⟨o, es, ep, ho, hc, hdat, hk, hp, hn⟩ := hm
      show wpAny _ _ (dictSize d >>= _) _ _ s
      unfold dictSize
      refine wpAny_bind (wpAny_bind (wpAny_dictEntries ho hdat (wpAny_pure ?_)))
      show wpAny _ _ (Builtin.Dict.pendingCount d >>= _) _ _ s
      refine wpAny_bind (wpAny_pendingCount_other hd ?_)
      refine wpAny_ret_mkInt ?_
      have : es.size = kvs.length := by have := congrArg List.length hk; simpa using this
      rw [Nat.add_zero, this]; exact h
  refine wpAny_bind (m := callSpecial? (.ref d) (Str.ofString "__len__")) (wpAny_callSpecial?_slot (name := Str.ofString "__len__") hm.typeIs F.slot_dict_len
    (call_meetsIn F.slot_dict_len hm.typeIs F.entry_dict_len (F.args_dict_len_1 _) g ⟨xs, hm, ?_⟩))
  show wpAny _ _ _ _ _ { s with toks := s.toks + 1 }
  refine wpAny_bind (wpAny_holding (wpAny_pure ?_))
  refine wpAny_bind (wpAny_letGo ?_)
  show wpAny _ _ (if ((xs.length : Nat) : Int) < 0 then _ else _) _ _ _
  rw [if_neg (by lia)]
  show wpAny _ _ (if ((xs.length : Nat) : Int) ≥ 2 ^ 63 then _ else _) _ _ _
  rw [if_neg (by lia)]
  exact wpAny_bind (wpAny_mkInt (wpAny_pure ⟨_, rfl, k⟩))

theorem bytes_join_slot : Slot "bytes" "join" "bytes.join" :=
  Slot.of (T := "bytes") (name := "join") (owner := "bytes") (n := "join") (by rw [typeLookup_type, builtinLookup_eq_fast]; kernel_rfl) (by decide +kernel) (by decide +kernel) (by decide +kernel)
    (.inr (by decide +kernel)) (by rw [isSubtype_type]; kernel_rfl)
theorem bytes_join_entry : entryFor table "bytes.join" = some Builtin.«bytes.join» := by first | exact entryFor_of_fast (by kernel_rfl) | exact entryFor_of_tree (by kernel_rfl)
theorem bytes_join_args (a b : Value) : argsOk "bytes.join" ⟨[a, b], []⟩ := by unfold argsOk; kernel_rfl

theorem take_buffer {id : String} {b : Array UInt8} {t : Tok} : Builtin.Bytes.takeBufferQuiet? id (.bytes b t) 0 = pure (some (b, none)) := by
  unfold Builtin.Bytes.takeBufferQuiet? Builtin.Bytes.takeBuffer?
  rw [KBy.special_eq KBy.look_buffer, KBy.own_buffer, show Builtin.Bytes.buffer? id (.bytes b t) (0 == Builtin.Bytes.fullReadOnly) = pure (some b) from KBy.buffer_eq]
  rfl
section
variable {M : Model}
theorem join_loop {b1 b2 b3 b4 : Array UInt8} {v1 v2 v3 v4 : Value} {Q : Array (Array UInt8) × List (Value × Option Value) → Shared → Prop} {f : Nat → Array (Array UInt8) × List (Value × Option Value) → Sem (ForInStep (Array (Array UInt8) × List (Value × Option Value)))} {P : Nat → Array UInt8 → Value → Prop}
    (turn : ∀ i b x p q, P i b x → q.any (fun y => y.1.onHeap) = false → ∀ Q : ForInStep (Array (Array UInt8) × List (Value × Option Value)) → Shared → Prop, Q (.yield (p.push b, q ++ [(x, none)])) s → wpAny M A (f i (p, q)) Q E s)
    (h1 : P 0 b1 v1) (h2 : P 1 b2 v2) (h3 : P 2 b3 v3) (h4 : P 3 b4 v4) (ho : v1.onHeap = false ∧ v2.onHeap = false ∧ v3.onHeap = false)
    (k : Q (#[b1, b2, b3, b4], [(v1, none), (v2, none), (v3, none), (v4, none)]) s) : wpAny M A (forIn [0, 1, 2, 3] (#[], []) f) Q E s := by
  rw [List.forIn_cons]
  refine wpAny_bind (turn 0 b1 v1 _ _ h1 rfl _ ?_)
  show wpAny M A (forIn [1, 2, 3] _ f) Q E s
  rw [List.forIn_cons]
  refine wpAny_bind (turn 1 b2 v2 _ _ h2 (by rw [List.nil_append, List.any_cons, ho.1]; rfl) _ ?_)
  show wpAny M A (forIn [2, 3] _ f) Q E s
  rw [List.forIn_cons]
  refine wpAny_bind (turn 2 b3 v3 _ _ h3 (by show (v1.onHeap || (v2.onHeap || false)) = false; rw [ho.1, ho.2.1]; rfl) _ ?_)
  show wpAny M A (forIn [3] _ f) Q E s
  rw [List.forIn_cons]
  refine wpAny_bind (turn 3 b4 v4 _ _ h4 (by show (v1.onHeap || (v2.onHeap || (v3.onHeap || false))) = false; rw [ho.1, ho.2.1, ho.2.2]; rfl) _ ?_)
  exact wpAny_pure k
theorem rng4 {a : Array Value} (h : a.size = 4) : List.range' [:a.size].start [:a.size].size [:a.size].step = [0, 1, 2, 3] := by rw [h]; decide
theorem join_go {k : List Value} {Q : Unit → Shared → Prop} (h : Q () s) (l : List (Value × Option Value)) (hl : ∀ x ∈ l, x.2 = none) : wpAny M A (Builtin.Bytes.joinLetGo l k) Q E s := by
  induction l with
  | nil => exact wpAny_pure h
  | cons x l ih =>
    obtain ⟨x, w⟩ := x
    cases (List.forall_mem_cons.mp hl).1
    exact wpAny_bind (m := letGo [x] _) (wpAny_letGo (ih (List.forall_mem_cons.mp hl).2))
end
theorem join_items {l : Addr} (hT : s.TypeIs (.ref l) "list") {Q : Value → Shared → Prop} (k : Q (.ref l) s) : wpAny (model X.prog X.w) A (Builtin.Bytes.joinItems (.ref l)) Q E s := by
  unfold Builtin.Bytes.joinItems
  exact wpAny_bind (wpAny_typeOf hT (bm_if_true (by decide) (wpAny_pure k)))
theorem four_size {b1 b2 b3 b4 : Array UInt8} (hz : b1.size + b2.size + b3.size + b4.size ≤ 16777216) : (b1 ++ b2 ++ b3 ++ b4).size ≤ 16777216 := by
  rw [Array.size_append, Array.size_append, Array.size_append]; exact hz

theorem bytes_join4 {b0 b1 b2 b3 b4 : Array UInt8} {t0 t1 t2 t3 t4 : Tok} {l : Addr} {n : Nat} (hl : s.heap.get? l = some (lstObj #[.bytes b1 t1, .bytes b2 t2, .bytes b3 t3, .bytes b4 t4] n)) (h0 : b0.size = 0)
    (hz : b1.size + b2.size + b3.size + b4.size ≤ 16777216) (k : ∀ t tk, Q (.bytes (b1 ++ b2 ++ b3 ++ b4) t) { s with toks := tk }) :
    wpAny (model X.prog X.w) A (call (.builtin "bytes.join") [.bytes b0 t0, .ref l]) Q E s := by
  obtain rfl : b0 = #[] := Array.size_eq_zero_iff.mp h0
  refine wpAny_call_entry bytes_join_slot (typeIs_bytes _ _ _) bytes_join_entry ?_ (bytes_join_args _ _)
  unfold Builtin.«bytes.join» Builtin.Bytes.joinM
  refine wpAny_bind (wpAny_of_eq (a := (Value.bytes #[] t0, Value.ref l)) (by kernel_rfl) ?_)
  refine wpAny_bind (m := Builtin.Bytes.joinItems (.ref l)) (join_items ⟨_, hl, rfl⟩ ?_)
  refine wpAny_bind (wpAny_seqItems hl rfl ?_)
  refine wpAny_bind (m := forIn _ _ _) ?_
  rw [Std.Legacy.Range.forIn_eq_forIn_range']
  rw [rng4 rfl]
  refine join_loop (P := fun i b x => ∃ t, x = .bytes b t ∧ #[Value.bytes b1 t1, .bytes b2 t2, .bytes b3 t3, .bytes b4 t4].getD i .none = .bytes b t) ?_ ⟨_, rfl, rfl⟩ ⟨_, rfl, rfl⟩ ⟨_, rfl, rfl⟩ ⟨_, rfl, rfl⟩ ⟨rfl, rfl, rfl⟩ ?_
  · rintro i b x p q ⟨t, rfl, hx⟩ hq Q k
    clear hz
    refine wpAny_bind (wpAny_seqItems hl rfl ?_)
    dsimp only
    rw [hx]
    refine bm_if_false (by rw [hq]; rfl) ?_
    exact wpAny_bind (wpAny_holding (wpAny_of_eq take_buffer (wpAny_bind (wpAny_seqItems hl rfl (wpAny_pure k)))))
  · refine wpAny_bind (m := Builtin.Bytes.payload (.bytes #[] t0)) (wpAny_of_eq (a := #[]) rfl ?_)
    refine bm_if_false (KBy.tooLong_not ?_) ?_
    · show 0 * 3 + b1.size + b2.size + b3.size + b4.size ≤ _
      rw [Nat.zero_mul, Nat.zero_add]; exact hz
    have hjo : Builtin.Bytes.joined #[] [b1, b2, b3, b4] = b1 ++ b2 ++ b3 ++ b4 := by
      show #[] ++ b1 ++ #[] ++ b2 ++ #[] ++ b3 ++ #[] ++ b4 = _
      simp only [Array.empty_append, Array.append_empty]
    refine wpAny_bind (m := mkBytes (Builtin.Bytes.joined #[] [b1, b2, b3, b4])) (wpAny_mkBytes ?_ (by rw [sizeLine_eq, hjo]; exact four_size hz))
    rw [hjo]
    refine wpAny_bind (wpAny_holding (wpAny_point (wpAny_bind (join_go ?_ _ ?_))))
    · exact wpAny_pure ⟨_, rfl, k _ _⟩
    · exact List.forall_mem_cons.mpr ⟨rfl, List.forall_mem_cons.mpr ⟨rfl, List.forall_mem_cons.mpr ⟨rfl, List.forall_mem_cons.mpr ⟨rfl, fun x hx => nomatch hx⟩⟩⟩⟩

theorem len_fit {n m : Nat} (h : n = m) (hz : m ≤ 16777216) : (n : Int) < 2 ^ 63 := by lia
theorem op_len_obj (W : Wd X) (R : Rep X c σ s.heap) {l : Loc} {o : AO} {n : Nat} (hH : σ.H l = some o) (e : lenO o = some n) (f : IsV X c s.heap (.obj l) v) : Pu X c s (.int n) Q → wpAny (model X.prog X.w) A (call (.builtin "len") [v]) Q E s := by
  refine f.objE fun a d hr => ?_
  obtain ⟨hM, ho⟩ := R.at hH hr
  cases o with
  | lst l =>
    obtain ⟨rfl, ws, n, h1, h2⟩ := ho
    have hl : ws.size = _ := h2.length
    exact oIs e fun hz k => Calls.call_len_list (isLst h1) (len_fit hl hz) (by rw [hl]; exact k.now _ .int')
  | dn es =>
    obtain ⟨rfl, xs, h1, h0, h2, h3⟩ := ho
    have hl : xs.length = es.length := by have := congrArg List.length h2; rw [List.length_map, List.length_map] at this; exact this.symm
    exact oIs e fun hz k => len_dictH (R.off W hM) h1 (by rw [hl]; exact hz) (by rw [hl]; exact k.now _ .int')
  | di es =>
    obtain ⟨rfl, kvs, h1, h2⟩ := ho
    exact oIs e fun hz k => call_len_dict (R.off W hM) h1 (len_fit h2.length hz) (by rw [h2.length]; exact k.now _ .int')
  | _ => exact nO e
theorem op_len (W : Wd X) (R : Rep X c σ s.heap) (e : lenV σ p = some r) (f : IsV X c s.heap p v) : Pu X c s r Q → wpAny (model X.prog X.w) A (call (.builtin "len") [v]) Q E s := by
  cases p with
  | bytes b => exact oIs e fun hz k => f.bytesE fun t => len_bytes hz (k.now _ .int')
  | lst l =>
    refine oIs e fun hz k => f.lstE fun a vs n h1 _ f => ?_
    have hl : vs.size = _ := f.length
    exact Calls.call_len_list (isLst h1) (len_fit hl hz) (by rw [hl]; exact k.now _ .int')
  | obj l => exact oB (show (σ.H l).bind _ = some r from e) fun o hH e => oM e fun n e1 k => op_len_obj W R hH e1 f k
  | _ => exact nO e
theorem op_int (e : intV p = some r) (f : IsV X c s.heap p v) : Pu X c s r Q → wpAny (model X.prog X.w) A (call (.type "int") [v]) Q E s := by
  cases p with
  | int => exact oS e fun k => f.intE fun t => call_int_int (k.here .int')
  | bool => exact oS e fun k => f.boolE (call_int_bool (k.now _ .int'))
  | _ => exact nO e
theorem op_bytes (hh : A.handled = none) (e : bytV p = some r) (f : IsV X c s.heap p v) : Pu X c s r Q → wpAny (model X.prog X.w) A (call (.type "bytes") [v]) Q E s := by
  cases p with
  | bytes b => exact oS e fun k => f.bytesE fun t => bytes_same (k.here .bytes')
  | lst l =>
    refine oB (show (asInts l).bind _ = some r from e) fun is e1 e => oIs e fun hb k => f.lstE fun a vs n h1 _ f => ?_
    have hi := asInts_are e1 f
    have hl : vs.size = is.length := hi.length
    refine call_bytes_ints (vs := vs.toList) (ns := is) (by rw [Array.toArray_toList]; exact isLst h1) hi (fun n hn => ?_) (by rw [sizeLine_eq, Array.length_toList, hl]; exact hb.2) hh fun h' t tk hk => k _ h' tk hk .bytes'
    have := List.all_eq_true.mp hb.1 n hn
    rw [byteOk, Bool.and_eq_true, decide_eq_true_eq, decide_eq_true_eq] at this
    exact this
  | _ => exact nO e
theorem op_tuple (R : Rep X c σ s.heap) (e : tupV p = some r) (f0 : IsV X c s.heap p v) : Pu X c s r Q → wpAny (model X.prog X.w) A (call (.type "tuple") [v]) Q E s := by
  cases p with
  | tup l =>
    refine oS e fun k => ?_
    have := k.here f0
    revert this
    exact f0.tupE fun a vs n h1 _ f k => call_tuple_same (isTup h1) k
  | lst l =>
    refine oIs e fun hz k => f0.lstE fun a vs n h1 _ f => ?_
    have hl : vs.size = _ := f.length
    refine call_tuple_list (isLst h1) (fun h' hk => ?_) (by rw [sizeLine_eq, hl]; exact hz)
    exact k _ _ _ (Gr.trans hk (Gr.push _)) (IsV.newT (R.fresh.gr hk) (f.gr hk))
  | _ => exact nO e
theorem two_ints {f : Int → Int → Int} {ps : List PV} {vs : List Value} {C : List Value → PV → Prop} (e : two2 f ps = some r) (hv : IsVs X c s.heap ps vs) (k : ∀ i j t t', C [.int i t, .int j t'] (.int (f i j))) : C vs r := by
  refine oB e fun x h1 e => oB e fun i hi e => ?_
  rw [twoO_eq h1, asI_eq hi] at hv
  refine oM e fun j hj => ?_
  rw [asI_eq hj] at hv
  exact hv.consE fun v r f1 hv => hv.consE fun u r f2 hv => hv.nilE (f1.intE fun t => f2.intE fun t' => k i j t t')
theorem one_v {g : PV → Option PV} {ps : List PV} {vs : List Value} {D : List Value → Prop} (e : (oneO ps).bind g = some r) (hv : IsVs X c s.heap ps vs) (k : ∀ p v, g p = some r → IsV X c s.heap p v → D [v]) : D vs := by
  refine oB e fun p h1 e => ?_
  rw [oneO_eq h1] at hv
  exact hv.consE fun v r f1 hv => hv.nilE (k p v e f1)

theorem op_bi {b : Bi} {ps : List PV} {vs : List Value} (W : Wd X) (R : Rep X c σ s.heap) (hh : A.handled = none) (e : bcall σ b ps = some r) (hv : IsVs X c s.heap ps vs) (k : Pu X c s r Q) :
    wpAny (model X.prog X.w) A (call b.val vs) Q E s := by
  cases b with
  | len => exact one_v (D := fun vs => wpAny _ A (call _ vs) Q E s) e hv fun p v e f => op_len W R e f k
  | int => exact one_v (D := fun vs => wpAny _ A (call _ vs) Q E s) e hv fun p v e f => op_int e f k
  | max => exact two_ints (C := fun vs r => Pu X c s r Q → wpAny _ A (call _ vs) Q E s) e hv (fun i j t t' k => max_two_ints hh fun h' tk hk => k _ h' tk hk (by split <;> exact .int')) k
  | min => exact two_ints (C := fun vs r => Pu X c s r Q → wpAny _ A (call _ vs) Q E s) e hv (fun i j t t' k => min_two_ints hh fun h' tk hk => k _ h' tk hk (by split <;> exact .int')) k
  | bytes => exact one_v (D := fun vs => wpAny _ A (call _ vs) Q E s) e hv fun p v e f => op_bytes hh e f k
  | tuple => exact one_v (D := fun vs => wpAny _ A (call _ vs) Q E s) e hv fun p v e f => op_tuple R e f k
end
end Lm
end
section
open PySem PySem.W PyProof.Rows
set_option Elab.async false
set_option autoImplicit false
set_option linter.unusedVariables false
set_option tactic.hygienic false
namespace Lm

structure Fn where
  name : Str
  params : List Str
  dflts : List PV
  body : List Stmt
  scope : Scope

structure Tab where
  fn : Str → Option Fn
  cls : Str → Option Bool
  meth : Str → Str → Option Fn
  cst : Str → Option PV
  plain : Str → Str → Bool

inductive Fl where
  | next | brk | cont | ret (p : PV)
noncomputable def Fl.goes : Fl → Bool
  | .next => true | .cont => true | _ => false
noncomputable def Fl.stops : Fl → Bool
  | .next => false | _ => true
noncomputable def Fl.val : Fl → Option PV
  | .next => some .none | .ret p => some p | _ => none

/-- a part of what the names hold -/
noncomputable def Sub (l' l : Ls) : Prop := ∀ k p, getV k l' = some p → getV k l = some p
-- the evaluator as relations: what a text may give, from its parts' answers
inductive evs (f : Expr → St → PV × St → Prop) : List Expr → St → List PV × St → Prop
  | nil {σ : St} : evs f [] σ ([], σ)
  | cons {e : Expr} {es : List Expr} {σ σ1 σ2 : St} {p : PV} {ps : List PV} : f e σ (p, σ1) → evs f es σ1 (ps, σ2) → ps.length ≤ 1000 → evs f (e :: es) σ (p :: ps, σ2)

inductive seqF (f : Stmt → Ls → St → Fl × Ls × St → Prop) : List Stmt → Ls → St → Fl × Ls × St → Prop
  | nil {ls : Ls} {σ : St} : seqF f [] ls σ (.next, ls, σ)
  | next {t : Stmt} {ts : List Stmt} {ls ls1 : Ls} {σ σ1 : St} {r : Fl × Ls × St} : f t ls σ (.next, ls1, σ1) → seqF f ts ls1 σ1 r → seqF f (t :: ts) ls σ r
  | weak {ts : List Stmt} {l' ls : Ls} {σ : St} {r : Fl × Ls × St} : Sub l' ls → seqF f ts l' σ r → seqF f ts ls σ r
  | stop {t : Stmt} {ts : List Stmt} {ls ls1 : Ls} {σ σ1 : St} {x : Fl} : x.stops = true → f t ls σ (x, ls1, σ1) → seqF f (t :: ts) ls σ (x, ls1, σ1)

noncomputable def sameV (l : Option Loc) (σ σ' : St) : Bool := match l with
  | none => true
  | some p => σ'.V p == σ.V p

inductive loopF (src : Option Loc) (asgn : PV → Ls → St → Ls × St → Prop) (body : Ls → St → Fl × Ls × St → Prop) (σ₀ : St) : List PV → Ls → St → Fl × Ls × St → Prop
  | nil {ls : Ls} {σ : St} : loopF src asgn body σ₀ [] ls σ (.next, ls, σ)
  | on {x : PV} {xs : List PV} {ls l1 l2 l3 : Ls} {σ s1 s2 : St} {fl : Fl} {r : Fl × Ls × St} : asgn x ls σ (l1, s1) → body l1 s1 (fl, l2, s2) → fl.goes = true → sameV src σ₀ s2 = true → Sub l3 l2 → loopF src asgn body σ₀ xs l3 s2 r → loopF src asgn body σ₀ (x :: xs) ls σ r
  | brk {x : PV} {xs : List PV} {ls l1 l2 : Ls} {σ s1 s2 : St} : asgn x ls σ (l1, s1) → body l1 s1 (.brk, l2, s2) → loopF src asgn body σ₀ (x :: xs) ls σ (.next, l2, s2)
  | ret {x p : PV} {xs : List PV} {ls l1 l2 : Ls} {σ s1 s2 : St} : asgn x ls σ (l1, s1) → body l1 s1 (.ret p, l2, s2) → loopF src asgn body σ₀ (x :: xs) ls σ (.ret p, l2, s2)

inductive whileF (test : Ls → St → Bool × St → Prop) (body : Ls → St → Fl × Ls × St → Prop) : Nat → Ls → St → Fl × Ls × St → Prop
  | done {k : Nat} {ls : Ls} {σ s1 : St} : test ls σ (false, s1) → whileF test body (k + 1) ls σ (.next, ls, s1)
  | on {k : Nat} {ls l1 l2 : Ls} {σ s1 s2 : St} {fl : Fl} {r : Fl × Ls × St} : test ls σ (true, s1) → body ls s1 (fl, l1, s2) → fl.goes = true → Sub l2 l1 → whileF test body k l2 s2 r → whileF test body (k + 1) ls σ r
  | brk {k : Nat} {ls l1 : Ls} {σ s1 s2 : St} : test ls σ (true, s1) → body ls s1 (.brk, l1, s2) → whileF test body (k + 1) ls σ (.next, l1, s2)
  | ret {k : Nat} {p : PV} {ls l1 : Ls} {σ s1 s2 : St} : test ls σ (true, s1) → body ls s1 (.ret p, l1, s2) → whileF test body (k + 1) ls σ (.ret p, l1, s2)

/-- a comprehension's turns: what they give, one after the other -/
inductive compF (src : Option Loc) (turn : PV → Ls → St → List PV × Ls × St → Prop) (σ₀ : St) : List PV → Ls → St → List PV × Ls × St → Prop
  | nil {ls : Ls} {σ : St} : compF src turn σ₀ [] ls σ ([], ls, σ)
  | cons {x : PV} {xs ps qs : List PV} {ls l1 l2 : Ls} {σ s1 : St} {y : Ls × St} : turn x ls σ (ps, l1, s1) → sameV src σ₀ s1 = true → Sub l2 l1 → compF src turn σ₀ xs l2 s1 (qs, y) → compF src turn σ₀ (x :: xs) ls σ (ps ++ qs, y)

inductive testsF (f : Expr → St → Bool × St → Prop) : List Expr → St → Bool × St → Prop
  | nil {σ : St} : testsF f [] σ (true, σ)
  | on {e : Expr} {es : List Expr} {σ σ1 : St} {r : Bool × St} : f e σ (true, σ1) → testsF f es σ1 r → testsF f (e :: es) σ r
  | off {e : Expr} {es : List Expr} {σ σ1 : St} : f e σ (false, σ1) → testsF f (e :: es) σ (false, σ1)

noncomputable def isMark : Expr → Bool
  | .Starred .. => true
  | .Set .. => true
  | _ => false
inductive asgsF (f : Expr → PV → Ls → St → Ls × St → Prop) : List Expr → List PV → Ls → St → Ls × St → Prop
  | nil {ls : Ls} {σ : St} : asgsF f [] [] ls σ (ls, σ)
  | cons {t : Expr} {ts : List Expr} {p : PV} {ps : List PV} {ls l1 : Ls} {σ s1 : St} {r : Ls × St} : isMark t = false → f t p ls σ (l1, s1) → asgsF f ts ps l1 s1 r → asgsF f (t :: ts) (p :: ps) ls σ r

noncomputable def itemsO (o : AO) : Option (List PV) := match o with
  | .lst l => some l
  | .di es => some (es.map (fun e => .int e.1))
  | .ds _ => none
  | .dn _ => none
  | .inst .. => none
noncomputable def items (σ : St) (p : PV) : Option (List PV × Option Loc) := match p with
  | .lst l => some (l, none)
  | .bytes b => some (b.toList.map (fun x => .int x.toNat), none)
  | .dcs ks vs => if ks.length = vs.length then some (ks.map .str, none) else none
  | .obj p => (σ.H p).bind fun o => (itemsO o).bind fun l => some (l, some p)
  | _ => none

noncomputable def rangeL (a b c : Int) : Option (List PV) :=
  if -(2 ^ 40) ≤ a ∧ a ≤ 2 ^ 40 ∧ -(2 ^ 40) ≤ b ∧ b ≤ 2 ^ 40 ∧ (c = 1 ∨ c = -1) then some ((List.range (Builtin.Range.rangeSize a b c).toNat).map fun i : Nat => .int (a + (i : Int) * c)) else none

noncomputable def intsO : List PV → Option (List Int)
  | [] => some []
  | p :: l => (asI p).bind fun i => (intsO l).bind fun is => some (i :: is)
noncomputable def rangeI : List Int → Option (List PV)
  | [] => none
  | b :: l => match l with
    | [] => rangeL 0 b 1
    | e :: l => match l with
      | [] => rangeL b e 1
      | d :: l => match l with
        | [] => rangeL b e d
        | _ :: _ => none
noncomputable def rangeA (l : List PV) : Option (List PV) := (intsO l).bind rangeI

/-- a < b of things that are sorted: ints, bytes, tuples item by item -/
noncomputable def bytesLt (a b : List UInt8) : Bool := Builtin.Bytes.order a b == .lt
mutual
noncomputable def pvlt : PV → PV → Option Bool
  | .int a, q => (asI q).map fun b => decide (a < b)
  | .bytes a, q => (asB q).map fun b => bytesLt a.toList b.toList
  | .tup l, q => (asT q).bind (pvlts l)
  | .none, _ => none
  | .bool _, _ => none
  | .str _, _ => none
  | .lst _, _ => none
  | .inst .., _ => none
  | .dcs .., _ => none
  | .obj _, _ => none
noncomputable def pvlts : List PV → List PV → Option Bool
  | [], m => some (!m.isEmpty)
  | x :: l, m => match m with
    | [] => some false
    | y :: m => (peq x y).bind fun b => cond b (pvlts l m) (pvlt x y)
end

noncomputable def runT {α : Type} (lt : Nat → Nat → Option Bool) : KasT α → Option α
  | .ret a => some a
  | .ask i j k => (lt i j).bind fun b => runT lt (k b)

noncomputable def sortL (l : List PV) : Option (List PV) :=
  if l.length < 2 then some l
  else if 64 ≤ l.length then none
  else (runT (fun i j => pvlt (l.getD i .none) (l.getD j .none)) (kas_sort l.length)).bind fun p => if p.size ≤ 64 then some (p.toList.map fun i => l.getD i .none) else none

noncomputable def isIntP (p : PV) : Bool := (asI p).isSome
noncomputable def headT (p : PV) : Option (PV × List PV) := ((asT p).bind headO).bind fun y => if deps (y.1 :: y.2) ≤ 100 then some y else none
noncomputable def isTupI (p : PV) : Bool := (headT p).any fun y => (asI y.1).isSome
noncomputable def isTupT (p : PV) : Bool := (headT p).any fun y => (asT y.1).isSome
noncomputable def sortKind (l : List PV) : Bool := l.all isIntP || l.all isTupI || l.all isTupT

noncomputable def sortO (o : AO) : Option (List PV) := match o with
  | .di es => some (es.map fun e => .int e.1)
  | .dn es => some (es.map fun e => nkPV e.1)
  | .lst _ => none
  | .ds _ => none
  | .inst .. => none
noncomputable def sortItems (σ : St) (p : PV) : Option (List PV) := match p with
  | .lst l => some l
  | .obj p => (σ.H p).bind sortO
  | _ => none

noncomputable def sortv (σ : St) (p : PV) : Option PV := (sortItems σ p).bind fun l => if sortKind l then (sortL l).map .lst else none

noncomputable def instO (o : AO) : Option (Str × List Str × List PV) := match o with
  | .inst C ks vs => some (C, ks, vs)
  | .lst _ => none
  | .di _ => none
  | .ds _ => none
  | .dn _ => none
theorem instO_eq {o : AO} {x : Str × List Str × List PV} (h : instO o = some x) : o = .inst x.1 x.2.1 x.2.2 := by
  cases o with
  | inst => exact oS h rfl
  | _ => exact nO h
noncomputable def attrI (tb : Tab) (C : Str) (ks : List Str) (vs : List PV) (x : Str) : Option PV := if ks.length = vs.length ∧ tb.plain C x = true then (List.zip ks vs).lookup x else none
noncomputable def attrv (tb : Tab) (σ : St) (p : PV) (x : Str) : Option PV := match p with
  | .inst C ks vs => attrI tb C ks vs x
  | .obj l => (σ.H l).bind fun o => (instO o).bind fun y => attrI tb y.1 y.2.1 y.2.2 x
  | _ => none

noncomputable def setAt (ks : List Str) (vs : List PV) (x : Str) (p : PV) : List Str × List PV := match ks, vs with
  | k :: ks, v :: vs => if k = x then (k :: ks, p :: vs) else let r := setAt ks vs x p; (k :: r.1, v :: r.2)
  | _, _ => ([x], [p])

noncomputable def setAttrv (tb : Tab) (σ : St) (p : PV) (x : Str) (q : PV) : Option St := (asO p).bind fun l => (σ.H l).bind fun o => (instO o).bind fun y =>
  if y.2.1.length = y.2.2.length ∧ y.2.1.length < 100 ∧ tb.plain y.1 x = true then some (σ.set l (some (.inst y.1 (setAt y.2.1 y.2.2 x q).1 (setAt y.2.1 y.2.2 x q).2))) else none
noncomputable def setO (o : AO) (i q : PV) : Option AO := match o with
  | .lst l => (asI i).bind fun k => if 0 ≤ k ∧ k < l.length ∧ k < 2 ^ 63 then some (.lst (l.set k.toNat q)) else none
  | .di es => (asI i).bind fun k => if es.length ≤ 1000000 then some (.di (sto es k q)) else none
  | .ds es => (asS i).bind fun k => if es.length ≤ 1000000 then some (.ds (sto es k q)) else none
  | .dn es => (asNK i).bind fun k => if es.length ≤ 1000000 then some (.dn (sto es k q)) else none
  | .inst .. => none
noncomputable def setItemv (σ : St) (p i q : PV) : Option St := (asO p).bind fun l => (σ.H l).bind fun o => (setO o i q).bind fun x => some (σ.set l (some x))

inductive MK where
  | own (f : Fn)
  | append | pop | get | join

/-- which method a value has by a name -/
inductive MkR (tb : Tab) (σ : St) : PV → Str → MK → Prop
  | inst {C : Str} {ks : List Str} {vs : List PV} {x : Str} {F : Fn} : ks.contains x = false → tb.meth C x = some F → MkR tb σ (.inst C ks vs) x (.own F)
  | obj {l : Loc} {C : Str} {ks : List Str} {vs : List PV} {x : Str} {F : Fn} : σ.H l = some (.inst C ks vs) → ks.contains x = false → tb.meth C x = some F → MkR tb σ (.obj l) x (.own F)
  | join {b : Array UInt8} : MkR tb σ (.bytes b) (Str.ofString "join") .join
  | append {l : Loc} {vs : List PV} : σ.H l = some (.lst vs) → MkR tb σ (.obj l) (Str.ofString "append") .append
  | popI {l : Loc} {es : List (Int × PV)} : σ.H l = some (.di es) → MkR tb σ (.obj l) (Str.ofString "pop") .pop
  | popN {l : Loc} {es : List (NK × PV)} : σ.H l = some (.dn es) → MkR tb σ (.obj l) (Str.ofString "pop") .pop
  | get {l : Loc} {es : List (NK × PV)} : σ.H l = some (.dn es) → MkR tb σ (.obj l) (Str.ofString "get") .get

/-- what a method of the machine's own gives -/
inductive McR (σ : St) : MK → PV → List PV → PV × St → Prop
  | append {l : Loc} {x : PV} {vs : List PV} : σ.H l = some (.lst vs) → vs.length ≤ 1000000 → McR σ .append (.obj l) [x] (.none, σ.set l (some (.lst (vs ++ [x]))))
  | popI {l : Loc} {k : Int} {v : PV} {es : List (Int × PV)} : σ.H l = some (.di es) → es.length ≤ 1000000 → vat es k = some v → McR σ .pop (.obj l) [.int k] (v, σ.set l (some (.di (wou es k))))
  | popN {l : Loc} {k : NK} {v : PV} {es : List (NK × PV)} : σ.H l = some (.dn es) → es.length ≤ 1000000 → vat es k = some v → McR σ .pop (.obj l) [nkPV k] (v, σ.set l (some (.dn (wou es k))))
  | popD {l : Loc} {k : NK} {v : PV} {es : List (NK × PV)} : σ.H l = some (.dn es) → es.length ≤ 1000000 → vat es k = some v → McR σ .pop (.obj l) [nkPV k, .none] (v, σ.set l (some (.dn (wou es k))))
  | pop0 {l : Loc} {k : NK} {es : List (NK × PV)} : σ.H l = some (.dn es) → es.length ≤ 1000000 → vat es k = none → McR σ .pop (.obj l) [nkPV k, .none] (.none, σ)
  | get {l : Loc} {k : NK} {v : PV} {es : List (NK × PV)} : σ.H l = some (.dn es) → vat es k = some v → McR σ .get (.obj l) [nkPV k] (v, σ)
  | get0 {l : Loc} {k : NK} {es : List (NK × PV)} : σ.H l = some (.dn es) → vat es k = none → McR σ .get (.obj l) [nkPV k] (.none, σ)
  | join {b b1 b2 b3 b4 : Array UInt8} : b.size = 0 → b1.size + b2.size + b3.size + b4.size ≤ 16777216 → McR σ .join (.bytes b) [.lst [.bytes b1, .bytes b2, .bytes b3, .bytes b4]] (.bytes (b1 ++ b2 ++ b3 ++ b4), σ)

noncomputable def biOf (x : Str) : Option Bi :=
  if x = Str.ofString "len" then some .len
  else if x = Str.ofString "int" then some .int
  else if x = Str.ofString "max" then some .max
  else if x = Str.ofString "min" then some .min
  else if x = Str.ofString "bytes" then some .bytes
  else if x = Str.ofString "tuple" then some .tuple
  else none

noncomputable def asLs : AO → Option (List PV)
  | .lst l => some l
  | _ => none
theorem asLs_eq {o : AO} {l : List PV} (h : asLs o = some l) : o = .lst l := by
  cases o with
  | lst => exact congrArg AO.lst (Option.some.inj h)
  | _ => exact nO h
noncomputable def slcS (σ : St) (p : PV) (lo hi : Option Int) : Option PV := (asO p).elim (slcv p lo hi) fun l => (σ.H l).bind fun o => (asLs o).bind fun l' => slcv (.lst l') lo hi

/-- what an expression is, by a number -/
noncomputable def kE : Expr → Nat
  | .ListComp .. => 1
  | .SetComp .. => 2
  | .DictComp .. => 3
  | .Tuple .. => 4
  | .Name .. => 5
  | .UnaryOp .. => 6
  | .BoolOp .. => 7
  | .IfExp .. => 8
  | .Compare .. => 9
  | .Attribute .. => 10
  | .Subscript .. => 11
  | .Call .. => 12
  | _ => 0
/-- no super() -/
noncomputable def plainBase (e : Expr) : Bool := kE e != 12
/-- a comparison, of what is not nested too deep -/
noncomputable def cmpc (σ : St) (op : CmpOp) (p q : PV) : Option Bool := if dep p ≤ 100 then cmpv σ op p q else none

noncomputable def isVar (sc : Scope) (x : Str) : Bool := varKind (sc.names.lookup x)
noncomputable def isGlob (sc : Scope) (x : Str) : Bool := sc.names.lookup x == some .globalImplicit

/-- the inner scope of a comprehension: a free name that is the frame's own cell is told as a cell -/
noncomputable def compScope (scope sc : Scope) : Scope :=
  { scope with names := scope.names.map fun (n, k) => if (k == .free && sc.kind == .function && sc.names.lookup n == some .cell) then (n, .cell) else (n, k) }
noncomputable def compLs (scope : Scope) (ls : Ls) : Ls := ls.filter fun e => scope.names.lookup e.1 == some .free

/-- the inner scope of a comprehension is plain: no cells of its own, its free names are the frame's cells or free -/
noncomputable def compOk (scope sc : Scope) : Bool := scope.kind == .function && decide ((scope.names.map (·.1)).Nodup) && scope.names.all fun x => x.2 != .cell && (x.2 != .free || sc.names.lookup x.1 == some .cell || sc.names.lookup x.1 == some .free)
/-- the targets of a comprehension: local names alone -/
noncomputable def nmE : Expr → Option Str
  | .Name x _ => some x
  | _ => none
theorem nmE_eq {e : Expr} {x : Str} (h : nmE e = some x) : ∃ p, e = .Name x p := by
  cases e with
  | Name y p => exact ⟨p, oS h rfl⟩
  | _ => exact nO h
noncomputable def tpE : Expr → Option (List Expr)
  | .Tuple ts _ _ => some ts
  | _ => none
theorem tpE_eq {e : Expr} {ts : List Expr} (h : tpE e = some ts) : ∃ k p, e = .Tuple ts k p := by
  cases e with
  | Tuple y k p => exact ⟨k, p, oS h rfl⟩
  | _ => exact nO h
noncomputable def asgCs (sc : Scope) : List Expr → List PV → Ls → Option Ls
  | [], vs, ls => (nilO vs).map fun _ => ls
  | t :: ts, vs, ls => (headO vs).bind fun v => (nmE t).bind fun x => if sc.names.lookup x = some .local then asgCs sc ts v.2 (setL x v.1 ls) else none
noncomputable def asgC (sc : Scope) (t : Expr) (v : PV) (ls : Ls) : Option Ls := match nmE t with
  | some x => if sc.names.lookup x = some .local then some (setL x v ls) else none
  | none => (tpE t).bind fun ts => (asT v).bind fun vs => asgCs sc ts vs ls

noncomputable def bindP (F : Fn) (ps : List PV) : Option Ls :=
  if ps.length ≤ F.params.length ∧ F.params.length ≤ ps.length + F.dflts.length then
    some (List.zip F.params (ps ++ F.dflts.drop (ps.length + F.dflts.length - F.params.length)))
  else none

noncomputable def cellNames (sc : Scope) : Bool := sc.names.all fun x => x.2 == .local || x.2 == .cell || x.2 == .globalImplicit

noncomputable def nameT (e : Expr) : Bool := kE e == 5
noncomputable def noComp (e : Expr) : Bool := kE e == 0 || 4 ≤ kE e
noncomputable def plainTest (e : Expr) : Bool := kE e ≤ 5 || 10 ≤ kE e
/-- an assignment that the machine makes in its plain order -/
noncomputable def asgPlain (t e : Expr) : Bool := (noComp e || (kE e == 1 && (kE t == 10 || kE t == 11))) && (kE t == 5 || kE t == 10 || kE t == 11 || (kE t == 4 && kE e != 4))

/-- the answers at one depth -/
structure Ev where
  ev : Scope → Expr → Ls → St → PV × St → Prop
  itr : Scope → Expr → Ls → St → List PV × Option Loc × St → Prop
  turn : Scope → Comprehension → Expr ⊕ (Comprehension × Expr) → PV → Ls → St → List PV × Ls × St → Prop
  tr : Scope → Expr → Ls → St → Bool × St → Prop
  asg : Scope → Expr → PV → Ls → St → Ls × St → Prop
  exc : Scope → Stmt → Ls → St → Fl × Ls × St → Prop
  callF : Fn → List PV → St → PV × St → Prop
  inst : Str → List PV → St → PV × St → Prop

section
variable (tb : Tab) (R : Ev) (sc : Scope) (ls : Ls) (σ : St)
inductive CompR : Expr → List Comprehension → Scope → PV × St → Prop
  | one {elt : Expr} {g : Comprehension} {scope : Scope} {l : List PV} {loc : Option Loc} {σ1 σ2 : St} {ps : List PV} {ls2 : Ls} : compOk scope sc = true → g.is_async = 0 → R.itr sc g.iter ls σ (l, loc, σ1) → compF loc (R.turn (compScope scope sc) g (.inl elt)) σ1 l (compLs scope ls) σ1 (ps, ls2, σ2) → ps.length ≤ 1000000 → CompR elt [g] scope (.lst ps, σ2)
  | two {elt : Expr} {g g2 : Comprehension} {scope : Scope} {l : List PV} {loc : Option Loc} {σ1 σ2 : St} {ps : List PV} {ls2 : Ls} : compOk scope sc = true → g.is_async = 0 → g2.is_async = 0 → R.itr sc g.iter ls σ (l, loc, σ1) → compF loc (R.turn (compScope scope sc) g (.inr (g2, elt))) σ1 l (compLs scope ls) σ1 (ps, ls2, σ2) → ps.length ≤ 1000000 → CompR elt [g, g2] scope (.lst ps, σ2)
inductive EvOR : Option Expr → Option Int × St → Prop
  | none : EvOR none (none, σ)
  | some {e : Expr} {i : Int} {σ1 : St} : R.ev sc e ls σ (.int i, σ1) → EvOR (some e) (some i, σ1)
inductive EvR : Expr → PV × St → Prop
  | none {k : Nat} {pos : Pos} : EvR (.Constant .none k pos) (.none, σ)
  | bool {b : Bool} {k : Nat} {pos : Pos} : EvR (.Constant (.bool b) k pos) (.bool b, σ)
  | int {i : Int} {k : Nat} {pos : Pos} : EvR (.Constant (.int i) k pos) (.int i, σ)
  | str {x : Str} {k : Nat} {pos : Pos} : EvR (.Constant (.str x) k pos) (.str x, σ)
  | bytes {b : List UInt8} {k : Nat} {pos : Pos} : EvR (.Constant (.bytes b) k pos) (.bytes b.toArray, σ)
  | var {x : Str} {pos : Pos} {p : PV} : isVar sc x = true → plainN x = true → getV x ls = some p → EvR (.Name x pos) (p, σ)
  | cst {x : Str} {pos : Pos} {p : PV} : isGlob sc x = true → plainN x = true → tb.cst x = some p → EvR (.Name x pos) (p, σ)
  | bin {l r : Expr} {op : Operator} {pos : Pos} {p q u : PV} {σ1 σ2 : St} : R.ev sc l ls σ (p, σ1) → R.ev sc r ls σ1 (q, σ2) → binop op p q = some u → EvR (.BinOp l op r pos) (u, σ2)
  | neg {i : Int} {k : Nat} {p1 pos : Pos} : EvR (.UnaryOp .USub (.Constant (.int i) k p1) pos) (.int (-i), σ)
  | one {op : BoolOp} {x : Expr} {pos : Pos} {b : Bool} {σ1 : St} : R.ev sc x ls σ (.bool b, σ1) → EvR (.BoolOp op [x] pos) (.bool b, σ1)
  | go {op : BoolOp} {x y : Expr} {es : List Expr} {pos : Pos} {b : Bool} {σ1 : St} {r : PV × St} : R.ev sc x ls σ (.bool b, σ1) → ((op == .And) == b) = true → R.ev sc (.BoolOp op (y :: es) pos) ls σ1 r → EvR (.BoolOp op (x :: y :: es) pos) r
  | stop {op : BoolOp} {x y : Expr} {es : List Expr} {pos : Pos} {b : Bool} {σ1 : St} : R.ev sc x ls σ (.bool b, σ1) → ((op == .And) == b) = false → EvR (.BoolOp op (x :: y :: es) pos) (.bool b, σ1)
  | ifT {t b o : Expr} {pos : Pos} {σ1 : St} {r : PV × St} : R.tr sc t ls σ (true, σ1) → R.ev sc b ls σ1 r → EvR (.IfExp t b o pos) r
  | ifF {t b o : Expr} {pos : Pos} {σ1 : St} {r : PV × St} : R.tr sc t ls σ (false, σ1) → R.ev sc o ls σ1 r → EvR (.IfExp t b o pos) r
  | list {es : List Expr} {pos : Pos} {ps : List PV} {σ1 : St} : evs (fun e => R.ev sc e ls) es σ (ps, σ1) → EvR (.List es pos) (.lst ps, σ1)
  | listN {es : List Expr} {pos : Pos} {ps : List PV} {σ1 : St} : evs (fun e => R.ev sc e ls) es σ (ps, σ1) → EvR (.List es pos) (.obj (.l σ1.n), σ1.new (.l σ1.n) (.lst ps))
  | tuple {es : List Expr} {k : Nat} {pos : Pos} {ps : List PV} {σ1 : St} : evs (fun e => R.ev sc e ls) es σ (ps, σ1) → EvR (.Tuple es k pos) (.tup ps, σ1)
  | dict {pos : Pos} : EvR (.Dict [] [] pos) (.obj (.d σ.n), σ.new (.d σ.n) (.di []))
  | dictN {pos : Pos} : EvR (.Dict [] [] pos) (.obj (.d σ.n), σ.new (.d σ.n) (.dn []))
  | dict3 {k1 k2 k3 : Str} {i1 i2 i3 : Nat} {q1 q2 q3 pos : Pos} {e1 e2 e3 : Expr} {a1 a2 a3 : PV} {σ1 σ2 σ3 : St} : k1 ≠ k2 ∧ k1 ≠ k3 ∧ k2 ≠ k3 → R.ev sc e1 ls σ (a1, σ1) → R.ev sc e2 ls σ1 (a2, σ2) → R.ev sc e3 ls σ2 (a3, σ3) →
      EvR (.Dict [some (.Constant (.str k1) i1 q1), some (.Constant (.str k2) i2 q2), some (.Constant (.str k3) i3 q3)] [e1, e2, e3] pos) (.obj (.d σ3.n), σ3.new (.d σ3.n) (.ds [(k1, a1), (k2, a2), (k3, a3)]))
  | cmp {l r : Expr} {op : CmpOp} {pos : Pos} {p q : PV} {b : Bool} {σ1 σ2 : St} : R.ev sc l ls σ (p, σ1) → R.ev sc r ls σ1 (q, σ2) → cmpc σ2 op p q = some b → EvR (.Compare l [op] [r] pos) (.bool b, σ2)
  | attr {o : Expr} {x : Str} {pos : Pos} {p q : PV} {σ1 : St} : plainBase o = true → R.ev sc o ls σ (p, σ1) → attrv tb σ1 p x = some q → EvR (.Attribute o x pos) (q, σ1)
  | sub {o i : Expr} {pos : Pos} {p q u : PV} {σ1 σ2 : St} : R.ev sc o ls σ (p, σ1) → R.ev sc i ls σ1 (q, σ2) → subv σ2 p q = some u → EvR (.Subscript o i pos) (u, σ2)
  | slc {o : Expr} {lo hi : Option Expr} {p1 pos : Pos} {p u : PV} {j1 j2 : Option Int} {σ1 σ2 σ3 : St} : R.ev sc o ls σ (p, σ1) → EvOR R sc ls σ1 lo (j1, σ2) → EvOR R sc ls σ2 hi (j2, σ3) → slcS σ3 p j1 j2 = some u → EvR (.Subscript o (.Slice lo hi none p1) pos) (u, σ3)
  | comp {elt : Expr} {gens : List Comprehension} {scope : Scope} {pos : Pos} {r : PV × St} : CompR R sc ls σ elt gens scope r → EvR (.ListComp elt gens scope pos) r
  | mOwn {o : Expr} {x : Str} {apos pos : Pos} {args : List Expr} {p : PV} {ps : List PV} {F : Fn} {σ1 σ2 : St} {r : PV × St} : plainBase o = true → args.length < 20 → apos.endLine = pos.line → R.ev sc o ls σ (p, σ1) → MkR tb σ1 p x (.own F) → evs (fun e => R.ev sc e ls) args σ1 (ps, σ2) → R.callF F (p :: ps) σ2 r → EvR (.Call (.Attribute o x apos) args [] pos) r
  | mBi {o : Expr} {x : Str} {apos pos : Pos} {args : List Expr} {p : PV} {ps : List PV} {m : MK} {σ1 σ2 : St} {r : PV × St} : plainBase o = true → args.length < 20 → apos.endLine = pos.line → R.ev sc o ls σ (p, σ1) → MkR tb σ1 p x m → evs (fun e => R.ev sc e ls) args σ1 (ps, σ2) → McR σ2 m p ps r → EvR (.Call (.Attribute o x apos) args [] pos) r
  | call {f : Str} {fp pos : Pos} {args : List Expr} {F : Fn} {ps : List PV} {σ1 : St} {r : PV × St} : isGlob sc f = true → plainN f = true → tb.fn f = some F → evs (fun e => R.ev sc e ls) args σ (ps, σ1) → R.callF F ps σ1 r → EvR (.Call (.Name f fp) args [] pos) r
  | inst {f : Str} {fp pos : Pos} {args : List Expr} {fz : Bool} {ps : List PV} {σ1 : St} {r : PV × St} : isGlob sc f = true → plainN f = true → tb.cls f = some fz → evs (fun e => R.ev sc e ls) args σ (ps, σ1) → R.inst f ps σ1 r → EvR (.Call (.Name f fp) args [] pos) r
  | sorted {fp pos : Pos} {args : List Expr} {p q : PV} {σ1 : St} : isGlob sc (Str.ofString "sorted") = true → evs (fun e => R.ev sc e ls) args σ ([p], σ1) → sortv σ1 p = some q → EvR (.Call (.Name (Str.ofString "sorted") fp) args [] pos) (q, σ1)
  | bi {f : Str} {fp pos : Pos} {args : List Expr} {b : Bi} {ps : List PV} {q : PV} {σ1 : St} : biOf f = some b → isGlob sc f = true → plainN f = true → evs (fun e => R.ev sc e ls) args σ (ps, σ1) → bcall σ1 b ps = some q → EvR (.Call (.Name f fp) args [] pos) (q, σ1)
/-- the items of what a loop goes over -/
inductive ItrR : Expr → List PV × Option Loc × St → Prop
  | range {fp pos : Pos} {args : List Expr} {ps l : List PV} {σ1 : St} : isGlob sc (Str.ofString "range") = true → evs (fun e => R.ev sc e ls) args σ (ps, σ1) → rangeA ps = some l → ItrR (.Call (.Name (Str.ofString "range") fp) args [] pos) (l, none, σ1)
  | ev {e : Expr} {p : PV} {l : List PV} {loc : Option Loc} {σ1 : St} : R.ev sc e ls σ (p, σ1) → items σ1 p = some (l, loc) → ItrR e (l, loc, σ1)
/-- one turn of a comprehension -/
inductive TurnR (g : Comprehension) (x : PV) : Expr ⊕ (Comprehension × Expr) → List PV × Ls × St → Prop
  | yes {elt : Expr} {l1 : Ls} {σ1 σ2 : St} {q : PV} : asgC sc g.target x ls = some l1 → testsF (fun e => R.tr sc e l1) g.ifs σ (true, σ1) → R.ev sc elt l1 σ1 (q, σ2) → TurnR g x (.inl elt) ([q], l1, σ2)
  | no {k : Expr ⊕ (Comprehension × Expr)} {l1 : Ls} {σ1 : St} : asgC sc g.target x ls = some l1 → testsF (fun e => R.tr sc e l1) g.ifs σ (false, σ1) → TurnR g x k ([], l1, σ1)
  | deep {elt : Expr} {g2 : Comprehension} {l1 : Ls} {σ1 σ2 : St} {l : List PV} {loc : Option Loc} {r : List PV × Ls × St} : asgC sc g.target x ls = some l1 → testsF (fun e => R.tr sc e l1) g.ifs σ (true, σ1) → R.itr sc g2.iter l1 σ1 (l, loc, σ2) → compF loc (R.turn sc g2 (.inl elt)) σ2 l l1 σ2 r → TurnR g x (.inr (g2, elt)) r
inductive TrR : Expr → Bool × St → Prop
  | not {x : Expr} {pos : Pos} {b : Bool} {σ1 : St} : R.tr sc x ls σ (b, σ1) → TrR (.UnaryOp .Not x pos) (!b, σ1)
  | nil {op : BoolOp} {pos : Pos} : TrR (.BoolOp op [] pos) (op == .And, σ)
  | go {op : BoolOp} {x : Expr} {es : List Expr} {pos : Pos} {b : Bool} {σ1 : St} {r : Bool × St} : R.tr sc x ls σ (b, σ1) → ((op == .And) == b) = true → R.tr sc (.BoolOp op es pos) ls σ1 r → TrR (.BoolOp op (x :: es) pos) r
  | stop {op : BoolOp} {x : Expr} {es : List Expr} {pos : Pos} {b : Bool} {σ1 : St} : R.tr sc x ls σ (b, σ1) → ((op == .And) == b) = false → TrR (.BoolOp op (x :: es) pos) (b, σ1)
  | cmp {l r : Expr} {op : CmpOp} {pos : Pos} {p q : PV} {b : Bool} {σ1 σ2 : St} : R.ev sc l ls σ (p, σ1) → R.ev sc r ls σ1 (q, σ2) → cmpc σ2 op p q = some b → TrR (.Compare l [op] [r] pos) (b, σ2)
  | cmp2 {l r1 r2 : Expr} {op1 op2 : CmpOp} {pos : Pos} {p q u : PV} {b : Bool} {σ1 σ2 σ3 : St} : R.ev sc l ls σ (p, σ1) → R.ev sc r1 ls σ1 (q, σ2) → cmpc σ2 op1 p q = some true → R.ev sc r2 ls σ2 (u, σ3) → cmpc σ3 op2 q u = some b → TrR (.Compare l [op1, op2] [r1, r2] pos) (b, σ3)
  | cmp0 {l r1 r2 : Expr} {op1 op2 : CmpOp} {pos : Pos} {p q : PV} {σ1 σ2 : St} : R.ev sc l ls σ (p, σ1) → R.ev sc r1 ls σ1 (q, σ2) → cmpc σ2 op1 p q = some false → TrR (.Compare l [op1, op2] [r1, r2] pos) (false, σ2)
  | val {e : Expr} {b : Bool} {σ1 : St} : plainTest e = true → R.ev sc e ls σ (.bool b, σ1) → TrR e (b, σ1)
inductive AsgR (v : PV) : Expr → Ls × St → Prop
  | name {x : Str} {pos : Pos} : isVar sc x = true → sc.names.lookup x ≠ some .free → AsgR v (.Name x pos) (setL x v ls, σ)
  | attr {o : Expr} {x : Str} {pos : Pos} {p : PV} {σ1 σ2 : St} : R.ev sc o ls σ (p, σ1) → setAttrv tb σ1 p x v = some σ2 → AsgR v (.Attribute o x pos) (ls, σ2)
  | sub {o i : Expr} {pos : Pos} {p q : PV} {σ1 σ2 σ3 : St} : R.ev sc o ls σ (p, σ1) → R.ev sc i ls σ1 (q, σ2) → setItemv σ2 p q v = some σ3 → AsgR v (.Subscript o i pos) (ls, σ3)
  | tup {ts : List Expr} {k : Nat} {pos : Pos} {vs : List PV} {r : Ls × St} : v = .tup vs → asgsF (fun t v => R.asg sc t v) ts vs ls σ r → AsgR v (.Tuple ts k pos) r
  | lst {ts : List Expr} {k : Nat} {pos : Pos} {vs : List PV} {r : Ls × St} : v = .lst vs → asgsF (fun t v => R.asg sc t v) ts vs ls σ r → AsgR v (.Tuple ts k pos) r
inductive ExcR : Stmt → Fl × Ls × St → Prop
  | expr {e : Expr} {pos : Pos} {p : PV} {σ1 : St} : noComp e = true → R.ev sc e ls σ (p, σ1) → ExcR (.Expr e pos) (.next, ls, σ1)
  | pass {pos : Pos} : ExcR (.Pass pos) (.next, ls, σ)
  | brk {pos : Pos} : ExcR (.Break pos) (.brk, ls, σ)
  | cont {pos : Pos} : ExcR (.Continue pos) (.cont, ls, σ)
  | ret {e : Expr} {pos : Pos} {p : PV} {σ1 : St} : R.ev sc e ls σ (p, σ1) → ExcR (.Return (some e) pos) (.ret p, ls, σ1)
  | retF {e : Expr} {pos : Pos} {l : Loc} {vs : List PV} {σ1 : St} : R.ev sc e ls σ (.obj l, σ1) → σ1.H l = some (.lst vs) → ExcR (.Return (some e) pos) (.ret (.lst vs), ls, σ1.drop l)
  | asg {t e : Expr} {pos : Pos} {p : PV} {σ1 σ2 : St} {ls2 : Ls} : asgPlain t e = true → R.ev sc e ls σ (p, σ1) → R.asg sc t p ls σ1 (ls2, σ2) → ExcR (.Assign [t] e pos) (.next, ls2, σ2)
  | asgT {ts es : List Expr} {k1 k2 : Nat} {q1 q2 pos : Pos} {ps : List PV} {σ1 σ2 : St} {ls2 : Ls} : es.all (constantsAlone 8) = false → R.ev sc (.Tuple es k2 q2) ls σ (.tup ps, σ1) → asgsF (fun t v => R.asg sc t v) ts ps ls σ1 (ls2, σ2) → ExcR (.Assign [.Tuple ts k1 q1] (.Tuple es k2 q2) pos) (.next, ls2, σ2)
  | asgC {x : Str} {elt : Expr} {gens : List Comprehension} {scope : Scope} {xp cp pos : Pos} {p : PV} {σ1 σ2 : St} {ls2 : Ls} : CompR R sc ls σ elt gens scope (p, σ1) → R.asg sc (.Name x xp) p ls σ1 (ls2, σ2) → ExcR (.Assign [.Name x xp] (.ListComp elt gens scope cp) pos) (.next, ls2, σ2)
  | ifT {t : Expr} {b o : List Stmt} {pos : Pos} {σ1 : St} {r : Fl × Ls × St} : R.tr sc t ls σ (true, σ1) → seqF (R.exc sc) b ls σ1 r → ExcR (.If t b o pos) r
  | ifF {t : Expr} {b o : List Stmt} {pos : Pos} {σ1 : St} {r : Fl × Ls × St} : R.tr sc t ls σ (false, σ1) → seqF (R.exc sc) o ls σ1 r → ExcR (.If t b o pos) r
  | whl {t : Expr} {b : List Stmt} {pos : Pos} {k : Nat} {r : Fl × Ls × St} : whileF (R.tr sc t) (seqF (R.exc sc) b) k ls σ r → ExcR (.While t b [] pos) r
  | for {t e : Expr} {b : List Stmt} {pos : Pos} {l : List PV} {loc : Option Loc} {σ1 : St} {r : Fl × Ls × St} : nameT t = true → R.itr sc e ls σ (l, loc, σ1) → loopF loc (R.asg sc t) (seqF (R.exc sc) b) σ1 l ls σ1 r → ExcR (.For t e b [] pos) r
  | try {b : List Stmt} {h0 : ExceptHandler} {hs : List ExceptHandler} {pos : Pos} {r : Fl × Ls × St} : seqF (R.exc sc) b ls σ r → ExcR (.Try b (h0 :: hs) [] [] pos) r
inductive CallR (F : Fn) (ps : List PV) : PV × St → Prop
  | mk {l1 l2 : Ls} {x : Fl} {p : PV} {σ1 : St} : bindP F ps = some l1 → seqF (R.exc F.scope) F.body l1 σ (x, l2, σ1) → x.val = some p → CallR F ps (p, σ1)
inductive InstR (C : Str) (ps : List PV) : PV × St → Prop
  | fz {F : Fn} {C' : Str} {ks : List Str} {vs : List PV} {σ1 : St} : tb.meth C (Str.ofString "__init__") = some F → R.callF F (.obj (.i σ.n) :: ps) (σ.new (.i σ.n) (.inst C [] [])) (.none, σ1) → σ1.H (.i σ.n) = some (.inst C' ks vs) → InstR C ps (.inst C' ks vs, σ1.drop (.i σ.n))
  | ob {F : Fn} {σ1 : St} : tb.meth C (Str.ofString "__init__") = some F → R.callF F (.obj (.i σ.n) :: ps) (σ.new (.i σ.n) (.inst C [] [])) (.none, σ1) → InstR C ps (.obj (.i σ.n), σ1)
end
noncomputable def Ev.bot : Ev := ⟨fun _ _ _ _ _ => False, fun _ _ _ _ _ => False, fun _ _ _ _ _ _ _ => False, fun _ _ _ _ _ => False, fun _ _ _ _ _ _ => False, fun _ _ _ _ _ => False, fun _ _ _ _ => False, fun _ _ _ _ => False⟩
noncomputable def Ev.up (tb : Tab) (R : Ev) : Ev where
  ev sc e ls σ := EvR tb R sc ls σ e
  itr sc e ls σ := ItrR R sc ls σ e
  turn sc g k x ls σ := TurnR R sc ls σ g x k
  tr sc e ls σ := TrR R sc ls σ e
  asg sc t v ls σ := AsgR tb R sc ls σ v t
  exc sc t ls σ := ExcR R sc ls σ t
  callF F ps σ := CallR R σ F ps
  inst C ps σ := InstR tb R σ C ps
noncomputable def EV (tb : Tab) : Nat → Ev := Nat.rec Ev.bot fun _ R => R.up tb
noncomputable def ev (tb : Tab) (n : Nat) : Scope → Expr → Ls → St → PV × St → Prop := (EV tb n).ev
noncomputable def itr (tb : Tab) (n : Nat) : Scope → Expr → Ls → St → List PV × Option Loc × St → Prop := (EV tb n).itr
noncomputable def turn (tb : Tab) (n : Nat) : Scope → Comprehension → Expr ⊕ (Comprehension × Expr) → PV → Ls → St → List PV × Ls × St → Prop := (EV tb n).turn
noncomputable def tr (tb : Tab) (n : Nat) : Scope → Expr → Ls → St → Bool × St → Prop := (EV tb n).tr
noncomputable def asg (tb : Tab) (n : Nat) : Scope → Expr → PV → Ls → St → Ls × St → Prop := (EV tb n).asg
noncomputable def exc (tb : Tab) (n : Nat) : Scope → Stmt → Ls → St → Fl × Ls × St → Prop := (EV tb n).exc
noncomputable def callF (tb : Tab) (n : Nat) : Fn → List PV → St → PV × St → Prop := (EV tb n).callF
noncomputable def inst (tb : Tab) (n : Nat) : Str → List PV → St → PV × St → Prop := (EV tb n).inst
end Lm
end
section
open PySem PySem.W PyProof.Rows
set_option Elab.async false
set_option autoImplicit false
set_option linter.unusedVariables false
set_option linter.unusedSectionVars false
set_option linter.unusedSimpArgs false
set_option tactic.hygienic false
namespace Lm

structure ClsFacts (X : Cx) (C : Str) : Prop where
  ga : findIn X.K (.ref (X.ca C)) "__getattribute__" = some (some (.builtin "object.__getattribute__"))
  gh : findIn X.K (.ref (X.ca C)) "__getattr__" = some none
  hd : hasDictIn X.K (X.ca C) = true
  sa : findIn X.K (.ref (X.ca C)) "__setattr__" = some (some (.builtin "object.__setattr__"))
  po : plainOver X.K (X.ca C) = true

structure FnAt (X : Cx) (F : Fn) (a : Addr) : Prop where
  fnd : isFn X.K (.ref a) = true
  keep : keepIn X.K (.ref a) = true
  ob : ∃ oc od osl fd, X.K.lookup a = some ⟨oc, od, .func fd, osl⟩ ∧ fd.body = .stmts F.body ∧ fd.scope = F.scope ∧ fd.globals = mainGlobals ∧ fd.builtins = builtinsNs ∧ fd.closure = [] ∧ codeIn X.K fd.code fd.qualname = true ∧
    ∀ ps ls, bindP F ps = some ls → ∀ (c : Cfg) (s : Shared) (vs : List Value), X.K.In s.heap → (∀ a o, X.h₀.get? a = some o → s.heap.get? a = some o ∧ ¬ c.M a) → IsVs X c s.heap ps vs →
      ∃ binds : List (Str × Value), BindsTo s fd ⟨vs, []⟩ binds ∧ binds.map (·.1) = ls.map (·.1) ∧ IsVs X c s.heap (ls.map (·.2)) (binds.map (·.2))
  co : F.scope.isCoroutine = false
  gen : F.scope.isGenerator = false
  kind : F.scope.kind = .function
  nd : F.params.Nodup
  par : ∀ x ∈ F.params, F.scope.names.lookup x = some .local ∨ F.scope.names.lookup x = some .cell
  nofree : ∀ x ∈ F.scope.names, x.2 ≠ .free

structure TabOk (X : Cx) (tb : Tab) : Prop where
  fn : ∀ x F, tb.fn x = some F → ∃ a, nsIn X.K mainGlobals x = some (some (.ref a)) ∧ FnAt X F a
  cls : ∀ C fz, tb.cls C = some fz → nsIn X.K mainGlobals C = some (some (.ref (X.ca C))) ∧ keepIn X.K (.ref (X.ca C)) = true ∧ makesIn X.K (X.ca C) = true ∧ ClsFacts X C
  meth : ∀ C x F, tb.meth C x = some F → ClsFacts X C ∧ ∃ a, findIn X.K (.ref (X.ca C)) x = some (some (.ref a)) ∧ FnAt X F a
  cst : ∀ x p, tb.cst x = some p → ∃ v, nsIn X.K mainGlobals x = some (some v) ∧ IsV X ⟨fun _ => False, fun _ => none⟩ X.h₀ p v
  plain : ∀ C x, tb.plain C x = true → ClsFacts X C ∧ findIn X.K (.ref (X.ca C)) x = some none
  bi : ∀ x, x ∈ ["len", "int", "max", "min", "bytes", "tuple", "sorted", "range"].map Str.ofString → nsIn X.K mainGlobals x = some none

/-- room in the machine -/
structure Room (A : Around) (n : Nat) : Prop where
  units : A.units + 40 * n + 600 ≤ cLine
  depth : A.depth + 3 * n + 10 ≤ recursionLimit
  hh : A.handled = none
theorem Room.le {A : Around} {n m : Nat} (r : Room A n) (h : m ≤ n) : Room A m :=
  ⟨Nat.le_trans (Nat.add_le_add_right (Nat.add_le_add_left (Nat.mul_le_mul_left 40 h) _) _) r.units, Nat.le_trans (Nat.add_le_add_right (Nat.add_le_add_left (Nat.mul_le_mul_left 3 h) _) _) r.depth, r.hh⟩

theorem Room.fit {A : Around} {n d : Nat} (r : Room A n) (h : d < 600) : A.units + d < cLine :=
  Nat.lt_of_lt_of_le (Nat.add_lt_add_left h _) (Nat.le_trans (Nat.add_le_add_right (Nat.le_add_right _ _) _) r.units)

theorem Room.in3 {A B : Around} {n d : Nat} (r : Room A (n + 1)) (hu : B.units = A.units + d) (hd : B.depth = A.depth + 1) (hh : B.handled = A.handled) (h : d ≤ 40 := by decide) : Room B n := by
  have step : ∀ {a d k : Nat}, d ≤ k → a + d + k * n ≤ a + k * (n + 1) := fun {a d k} h => by
    rw [Nat.add_assoc, Nat.mul_succ, Nat.add_comm d]; exact Nat.add_le_add_left (Nat.add_le_add_left h _) _
  exact ⟨Nat.le_trans (Nat.add_le_add_right (hu ▸ step h) 600) r.units, Nat.le_trans (Nat.add_le_add_right (hd ▸ step (by decide : 1 ≤ 3)) 10) r.depth, hh.trans r.hh⟩

noncomputable abbrev NoZ : Addr → Prop := fun _ => False

structure At (X : Cx) (n : Nat) (sc : Scope) (ls : Ls) (σ : St) (c : Cfg) (A : Around) (env : Env) (h : Heap) : Prop where
  room : Room A n
  scope : env.scope = sc
  rep : Rep X c σ h
  fok : Fok X c σ h env ls

section
variable {X : Cx} {n : Nat} {sc : Scope} {ls : Ls} {σ σ' σ'' : St} {c c' c'' : Cfg} {A : Around} {env : Env} {h h' h'' : Heap} {s : Shared} {E : Value → Shared → Prop}

theorem At.le {m : Nat} (a : At X n sc ls σ c A env h) (hm : m ≤ n) : At X m sc ls σ c A env h := ⟨a.room.le hm, a.scope, a.rep, a.fok⟩
theorem At.next (a : At X n sc ls σ c A env h) (R : Rep X c' σ' h') (e : Ext c σ h c' σ' h' NoZ) : At X n sc ls σ' c' A env h' :=
  ⟨a.room, a.scope, R, a.fok.ext a.rep (fun _ f => f.elim) (fun _ _ f => f) e⟩
theorem At.kind (a : At X n sc ls σ c A env h) (x : Str) : env.kindOf x = sc.names.lookup x := by unfold Env.kindOf; rw [a.scope]
theorem Ext.presN {c c' : Cfg} {σ σ' : St} {h h' : Heap} (R : Rep X c σ h) (E : Ext c σ h c' σ' h' NoZ) : Pres c h c' h' := Ext.pres R (fun _ f => f.elim) E

/-- what a step goes on with: the value p, the state σ' -/
noncomputable def Nx (X : Cx) (c : Cfg) (σ : St) (s : Shared) (σ' : St) (p : PV) (Q : Value → Shared → Prop) : Prop :=
  ∀ v c' h' tk, Rep X c' σ' h' → Ext c σ s.heap c' σ' h' NoZ → IsV X c' h' p v → Q v { s with heap := h', toks := tk }
noncomputable def Nxs (X : Cx) (c : Cfg) (σ : St) (s : Shared) (σ' : St) (ps : List PV) (Q : List Value → Shared → Prop) : Prop :=
  ∀ vs c' h' tk, Rep X c' σ' h' → Ext c σ s.heap c' σ' h' NoZ → IsVs X c' h' ps vs → Q vs { s with heap := h', toks := tk }

theorem Nx.after {p : PV} {Q : Value → Shared → Prop} {tk : Nat} (k : Nx X c σ s σ'' p Q) (R : Rep X c σ s.heap) (e : Ext c σ s.heap c' σ' h' NoZ) : Nx X c' σ' { s with heap := h', toks := tk } σ'' p Q :=
  fun v c'' h'' tk' R'' e'' hv => k v c'' h'' tk' R'' (Ext.trans R e e'') hv
theorem Nxs.after {ps : List PV} {Q : List Value → Shared → Prop} {tk : Nat} (k : Nxs X c σ s σ'' ps Q) (R : Rep X c σ s.heap) (e : Ext c σ s.heap c' σ' h' NoZ) : Nxs X c' σ' { s with heap := h', toks := tk } σ'' ps Q :=
  fun v c'' h'' tk' R'' e'' hv => k v c'' h'' tk' R'' (Ext.trans R e e'') hv
/-- a step that makes new objects at most -/
theorem Nx.pu {p : PV} {Q : Value → Shared → Prop} (k : Nx X c σ s σ p Q) (R : Rep X c σ s.heap) : Pu X c s p Q :=
  fun v h' tk G hv => k v c h' tk (R.grow G) (Ext.grow G) hv
theorem Nx.val {p : PV} {Q : Value → Shared → Prop} (k : Nx X c σ s σ p Q) (R : Rep X c σ s.heap) {v : Value} (tk : Nat) (hv : IsV X c s.heap p v) : Q v { s with toks := tk } :=
  k v c s.heap tk R Ext.refl hv
theorem Nx.here {p : PV} {Q : Value → Shared → Prop} (k : Nx X c σ s σ p Q) (R : Rep X c σ s.heap) {v : Value} (hv : IsV X c s.heap p v) : Q v s := k.val R s.toks hv

noncomputable def EvOk (X : Cx) (n : Nat) (sc : Scope) (e : Expr) (ls : Ls) (σ : St) (p : PV) (σ' : St) : Prop :=
  ∀ (c : Cfg) (s : Shared) (A : Around) (E : Value → Shared → Prop) (env : Env) (Q : Value → Shared → Prop), At X n sc ls σ c A env s.heap → Nx X c σ s σ' p Q → wpAny (model X.prog X.w) A (eval e env) Q E s
noncomputable def TrOk (X : Cx) (n : Nat) (sc : Scope) (e : Expr) (ls : Ls) (σ : St) (b : Bool) (σ' : St) : Prop :=
  ∀ (c : Cfg) (s : Shared) (A : Around) (E : Value → Shared → Prop) (env : Env) (Q : Bool → Shared → Prop), At X n sc ls σ c A env s.heap →
    (∀ c' h' tk, Rep X c' σ' h' → Ext c σ s.heap c' σ' h' NoZ → Q b { s with heap := h', toks := tk }) → wpAny (model X.prog X.w) A (isTrue e env (eval e env)) Q E s
noncomputable def EvOOk (X : Cx) (n : Nat) (sc : Scope) (e : Option Expr) (ls : Ls) (σ : St) (i : Option Int) (σ' : St) : Prop :=
  ∀ (c : Cfg) (s : Shared) (A : Around) (E : Value → Shared → Prop) (env : Env) (Q : Value → Shared → Prop), At X n sc ls σ c A env s.heap →
    (∀ v c' h' tk, Rep X c' σ' h' → Ext c σ s.heap c' σ' h' NoZ → IsPart v i → Q v { s with heap := h', toks := tk }) → wpAny (model X.prog X.w) A (evalPart e env) Q E s
/-- a name, an attribute or an item is stored: the names of the frame may turn -/
noncomputable def AsOk (X : Cx) (n : Nat) (sc : Scope) (t : Expr) (p : PV) (ls : Ls) (σ : St) (ls' : Ls) (σ' : St) : Prop :=
  ∀ (c : Cfg) (s : Shared) (A : Around) (E : Value → Shared → Prop) (env : Env) (v : Value) (Q : Unit → Shared → Prop), At X n sc ls σ c A env s.heap → IsV X c s.heap p v →
    (∀ c' h' tk, Rep X c' σ' h' → Ext c σ s.heap c' σ' h' (Fa env) → Fok X c' σ' h' env ls' → Q () { s with heap := h', toks := tk }) → wpAny (model X.prog X.w) A (assign t env v) Q E s
inductive IsFl (X : Cx) (c : Cfg) (h : Heap) : Fl → Flow → Prop
  | next : IsFl X c h .next .next
  | brk : IsFl X c h .brk .brk
  | cont : IsFl X c h .cont .cont
  | ret {p : PV} {v : Value} : IsV X c h p v → IsFl X c h (.ret p) (.ret v)
noncomputable def ExOk (X : Cx) (n : Nat) (sc : Scope) (t : Stmt) (ls : Ls) (σ : St) (r : Fl × Ls × St) : Prop :=
  ∀ (c : Cfg) (s : Shared) (A : Around) (E : Value → Shared → Prop) (env : Env) (Q : Flow → Shared → Prop), At X n sc ls σ c A env s.heap →
    (∀ f c' h' tk, Rep X c' r.2.2 h' → Ext c σ s.heap c' r.2.2 h' (Fa env) → Fok X c' r.2.2 h' env r.2.1 → IsFl X c' h' r.1 f → Q f { s with heap := h', toks := tk }) → wpAny (model X.prog X.w) A (exec t env) Q E s
noncomputable def ExsOk (X : Cx) (n : Nat) (sc : Scope) (t : List Stmt) (ls : Ls) (σ : St) (r : Fl × Ls × St) : Prop :=
  ∀ (c : Cfg) (s : Shared) (A : Around) (E : Value → Shared → Prop) (env : Env) (Q : Flow → Shared → Prop), At X n sc ls σ c A env s.heap →
    (∀ f c' h' tk, Rep X c' r.2.2 h' → Ext c σ s.heap c' r.2.2 h' (Fa env) → Fok X c' r.2.2 h' env r.2.1 → IsFl X c' h' r.1 f → Q f { s with heap := h', toks := tk }) → wpAny (model X.prog X.w) A (execs t env) Q E s
/-- the call of a def of the text -/
noncomputable def CaOk (X : Cx) (n : Nat) (F : Fn) (ps : List PV) (σ : St) (p : PV) (σ' : St) : Prop :=
  ∀ (c : Cfg) (s : Shared) (A : Around) (R : Result → Shared → Prop) (a : Addr) (vs : List Value), FnAt X F a → Room A n → Rep X c σ s.heap → IsVs X c s.heap ps vs →
    (∀ v c' h' tk, Rep X c' σ' h' → Ext c σ s.heap c' σ' h' NoZ → IsV X c' h' p v → R (.ok (.ret v)) { s with heap := h', toks := tk }) → codeAny (model X.prog X.w) A (.call (.ref a) ⟨vs, []⟩) R s

/-- the evaluator's answers at depth n are the model's -/
structure Snd (X : Cx) (tb : Tab) (n : Nat) : Prop where
  ev : ∀ {sc e ls σ r}, ev tb n sc e ls σ r → EvOk X n sc e ls σ r.1 r.2
  tr : ∀ {sc e ls σ r}, tr tb n sc e ls σ r → TrOk X n sc e ls σ r.1 r.2
  asg : ∀ {sc t p ls σ r}, asg tb n sc t p ls σ r → AsOk X n sc t p ls σ r.1 r.2
  exc : ∀ {sc t ls σ r}, exc tb n sc t ls σ r → ExOk X n sc t ls σ r
  call : ∀ {F ps σ r}, callF tb n F ps σ r → CaOk X n F ps σ r.1 r.2

theorem Rep.K (W : Wd X) (R : Rep X c σ h) : X.K.In h := W.K.keeps R.base
theorem Rep.lim (W : Wd X) (R : Rep X c σ h) : h.NoLimit := W.lim.keeps R.base
theorem Rep.pre (R : Rep X c σ h) : Pres ⟨fun _ => False, fun _ => Option.none⟩ X.h₀ c h :=
  ⟨fun a o e _ => ⟨R.base a o e, fun q => nO ((R.low a q).symm.trans e)⟩, fun _ _ e => nO e⟩

-- simple expressions
variable {tb : Tab}
theorem ev_const_int {i : Int} {k : Nat} {pos : Pos} : EvOk X n sc (.Constant (.int i) k pos) ls σ (.int i) σ := fun c s A E env Q a q => wpAny_Constant_int (q.val a.rep _ .int')
theorem ev_const_none {k : Nat} {pos : Pos} : EvOk X n sc (.Constant .none k pos) ls σ .none σ := fun c s A E env Q a q => wpAny_Constant_none (q.here a.rep .none')
theorem ev_const_bool {b : Bool} {k : Nat} {pos : Pos} : EvOk X n sc (.Constant (.bool b) k pos) ls σ (.bool b) σ := fun c s A E env Q a q => wpAny_Constant_bool (q.here a.rep .bool')
theorem ev_const_str {x : Str} {k : Nat} {pos : Pos} : EvOk X n sc (.Constant (.str x) k pos) ls σ (.str x) σ := fun c s A E env Q a q => wpAny_Constant_str (q.val a.rep _ .str')
theorem ev_const_bytes {b : List UInt8} {k : Nat} {pos : Pos} : EvOk X n sc (.Constant (.bytes b) k pos) ls σ (.bytes b.toArray) σ := fun c s A E env Q a q => by
  rw [eval_Constant]
  show wpAny _ _ (mkTextBytes b.toArray) Q E s
  exact fun _ _ _ => q.val a.rep _ .bytes'
theorem ev_name_var {x : Str} {pos : Pos} {p : PV} (hv : isVar sc x = true) (hp : plainN x = true) (hg : getV x ls = some p) : EvOk X n sc (.Name x pos) ls σ p σ := fun c s A E env Q a q =>
  ev_var a.fok hp hg (by rw [a.kind]; exact hv) fun v h => q.here a.rep h
theorem glob_at (W : Wd X) (R : Rep X c σ s.heap) (F : Fok X c σ s.heap env ls) {x : Str} {v : Value} (hx : env.kindOf x = some .globalImplicit) (hp : plainN x = true) (e : nsIn X.K mainGlobals x = some (some v)) {pos : Pos} {Q : Value → Shared → Prop} (q : Q v s) :
    wpAny (model X.prog X.w) A (eval (.Name x pos) env) Q E s := by
  obtain ⟨mg, hm⟩ := W.G
  have hv := mg_of W.K hm e
  refine Calls.Name_function_global F.kind hx ?_ (plainN_1 hp)
  exact Calls.loadGlobal_global (by rw [F.glob]; exact hm.keeps R.base) hv q
theorem blt_at (W : Wd X) (R : Rep X c σ s.heap) (F : Fok X c σ s.heap env ls) {x : Str} {v : Value} (hx : env.kindOf x = some .globalImplicit) (hp : plainN x = true) (e : nsIn X.K mainGlobals x = some none) (hb : bootBuiltins x = some v) (hn : x ≠ "__name__") {pos : Pos} {Q : Value → Shared → Prop} (q : Q v s) :
    wpAny (model X.prog X.w) A (eval (.Name x pos) env) Q E s := by
  obtain ⟨mg, hm⟩ := W.G
  obtain ⟨mb, hmb, hbb⟩ := W.B
  have hv := mg_none_of W.K hm e
  refine Calls.Name_function_global F.kind hx ?_ (plainN_1 hp)
  exact Calls.loadGlobal_builtin (by rw [F.glob]; exact hm.keeps R.base) hv (by rw [F.bul]; exact hmb.keeps R.base) ((hbb x hn).trans hb) q
theorem ev_name_cst (W : Wd X) (T : TabOk X tb) {x : Str} {pos : Pos} {p : PV} (hg : isGlob sc x = true) (hp : plainN x = true) (hc : tb.cst x = some p) : EvOk X n sc (.Name x pos) ls σ p σ := fun c s A E env Q a q => by
  obtain ⟨v, h1, h2⟩ := T.cst x p hc
  exact glob_at W a.rep a.fok (by rw [a.kind]; exact beq_iff_eq.mp hg) hp h1 (q.here a.rep (h2.mono a.rep.pre))
theorem ev_binop {l r : Expr} {op : Operator} {pos : Pos} {σ1 σ2 : St} {p q r' : PV} (hl : EvOk X n sc l ls σ p σ1) (hr : EvOk X n sc r ls σ1 q σ2) (e : binop op p q = some r') : EvOk X (n + 1) sc (.BinOp l op r pos) ls σ r' σ2 := fun c s A E env Q a k => by
  refine wpAny_BinOp (hl c s A E env _ (a.le (Nat.le_succ n)) fun v c1 h1 t1 R1 e1 v1 => ?_)
  refine hr c1 _ A E env _ ((a.next R1 e1).le (Nat.le_succ n)) fun u c2 h2 t2 R2 e2 v2 => ?_
  refine op_bin R2.fresh e (v1.mono (e2.presN R1)) v2 ?_
  exact ((k.after (tk := t1) a.rep e1).after (tk := t2) R1 e2).pu R2
end
end Lm
end
section
open PySem PySem.W PyProof.Rows
set_option Elab.async false
set_option autoImplicit false
set_option linter.unusedVariables false
set_option linter.unusedSectionVars false
set_option linter.unusedSimpArgs false
set_option tactic.hygienic false
namespace Lm

section
variable {X : Cx} {tb : Tab} {n : Nat} {sc : Scope} {ls : Ls} {σ σ1 σ2 σ3 : St} {c : Cfg} {A : Around} {env : Env} {s : Shared} {E : Value → Shared → Prop} {e l r x y t b o i : Expr} {pos : Pos} {p q u : PV}

theorem ev_neg {j : Int} {k : Nat} {p1 p2 : Pos} : EvOk X n sc (.UnaryOp .USub (.Constant (.int j) k p1) p2) ls σ (.int (-j)) σ := fun c s A E env Q a q => by
  refine wpAny_UnaryOp (wpAny_Constant_int ?_)
  exact neg_int (q.val a.rep _ .int')
theorem ev_ifexp {bb : Bool} (ht : TrOk X n sc t ls σ bb σ1) (hb : bb = true → EvOk X n sc b ls σ1 p σ2) (ho : bb = false → EvOk X n sc o ls σ1 p σ2) : EvOk X (n + 1) sc (.IfExp t b o pos) ls σ p σ2 := fun c s A E env Q a k => by
  refine wpAny_IfExp (ht c s A E env _ (a.le (Nat.le_succ n)) fun c1 h1 t1 R1 e1 => ?_)
  cases bb with
  | true => exact hb rfl c1 _ A E env _ ((a.next R1 e1).le (Nat.le_succ n)) (k.after a.rep e1)
  | false => exact ho rfl c1 _ A E env _ ((a.next R1 e1).le (Nat.le_succ n)) (k.after a.rep e1)

theorem star_one (h : isMark e = false) (rest : List Expr) (env : Env) : starEach (e :: rest) env = (false, eval e env) :: starEach rest env := by
  cases e <;> first | rfl | exact bT h
theorem marks_set {r : PV × St} (he : ev tb n sc e ls σ r) : isMark e = false := by
  cases n with
  | zero => exact False.elim he
  | succ n =>
    have h : EvR tb (EV tb n) sc ls σ e r := he
    clear he
    induction h <;> rfl
theorem marks_no {op : CmpOp} {r : PV × St} (he : ev tb n sc e ls σ r) : behindInMarks op e = false := by
  have h := marks_set he
  clear he
  cases e <;> first | rfl | exact bT h

theorem evs_plain {f : Expr → St → PV × St → Prop} (hs : ∀ {e σ r}, f e σ r → isMark e = false) (env : Env) (pos : Pos) {es : List Expr} {σ : St} {r : List PV × St} (h : evs f es σ r) : (backTo pos (starEach es env)).any (·.1) = false := by
  induction h with
  | nil => rfl
  | cons h1 h2 _ ih =>
    rw [star_one (hs h1)]
    show (false || (backTo pos (starEach _ env)).any (·.1)) = false
    rw [ih]; rfl
theorem evs_len {f : Expr → St → PV × St → Prop} {es : List Expr} {σ : St} {r : List PV × St} (h : evs f es σ r) : r.1.length ≤ 1001 ∧ r.1.length = es.length := by
  induction h with
  | nil => exact ⟨Nat.zero_le _, rfl⟩
  | cons _ _ hl ih => exact ⟨Nat.succ_le_succ hl, congrArg Nat.succ ih.2⟩
/-- items of a display, arguments of a call: one after the other -/
theorem evs_ok {f : Expr → St → PV × St → Prop} (hf : ∀ {e σ r}, f e σ r → EvOk X n sc e ls σ r.1 r.2) (hs : ∀ {e σ r}, f e σ r → isMark e = false) {es : List Expr} {σ : St} {r : List PV × St} (h : evs f es σ r) :
    ∀ (c : Cfg) (s : Shared) (A : Around) (E : Value → Shared → Prop) (env : Env) (pos : Pos) (Q : List Value → Shared → Prop), At X n sc ls σ c A env s.heap → Nxs X c σ s r.2 r.1 Q →
      wpAny (model X.prog X.w) A (spliced (backTo pos (starEach es env))) Q E s := by
  induction h with
  | nil => exact fun c s A E env pos Q a k => wpAny_items_nil (k [] c s.heap s.toks a.rep Ext.refl .nil)
  | cons h1 _ _ ih =>
    intro c s A E env pos Q a k
    refine wpAny_items_cons ?_ (star_one (hs h1) _ env)
    refine hf h1 c s A E env _ a fun v c1 h1 t1 R1 e1 v1 => ?_
    refine ih c1 _ A E env pos _ (a.next R1 e1) fun vs c2 h2 t2 R2 e2 v2 => ?_
    exact k _ c2 h2 t2 R2 (Ext.trans a.rep e1 e2) (.cons (v1.mono (e2.presN R1)) v2)
theorem Snd.evs (S : Snd X tb n) {es : List Expr} {r : List PV × St} (h : Lm.evs (fun e => Lm.ev tb n sc e ls) es σ r)
    (c : Cfg) (s : Shared) (A : Around) (E : Value → Shared → Prop) (env : Env) (pos : Pos) (Q : List Value → Shared → Prop) (a : At X n sc ls σ c A env s.heap) (k : Nxs X c σ s r.2 r.1 Q) :
    wpAny (model X.prog X.w) A (spliced (backTo pos (starEach es env))) Q E s := evs_ok (fun h => S.ev h) marks_set h c s A E env pos Q a k
theorem Snd.evs_no {es : List Expr} {r : List PV × St} (h : Lm.evs (fun e => Lm.ev tb n sc e ls) es σ r) (env : Env) (pos : Pos) : (backTo pos (starEach es env)).any (·.1) = false := evs_plain marks_set env pos h

theorem Nxs.newL {ps : List PV} {Q : Value → Shared → Prop} {c' : Cfg} {σ' : St} {h' : Heap} {tk : Nat} {vs : List Value} (k : Nx X c σ s σ' (.lst ps) Q) (R : Rep X c σ s.heap) (R' : Rep X c' σ' h') (e : Ext c σ s.heap c' σ' h' NoZ) (hv : IsVs X c' h' ps vs) :
    Q (.ref h'.objs.size) { s with heap := h'.push (lstObj vs.toArray 0), toks := tk } :=
  k _ c' _ tk (R'.grow (Gr.push _)) (Ext.trans R e (Ext.grow (Gr.push _))) (IsV.newL R'.fresh hv)
theorem Nxs.newT {ps : List PV} {Q : Value → Shared → Prop} {c' : Cfg} {σ' : St} {h' : Heap} {tk : Nat} {vs : List Value} (k : Nx X c σ s σ' (.tup ps) Q) (R : Rep X c σ s.heap) (R' : Rep X c' σ' h') (e : Ext c σ s.heap c' σ' h' NoZ) (hv : IsVs X c' h' ps vs) :
    Q (.ref h'.objs.size) { s with heap := h'.push (tupObj vs.toArray 0), toks := tk } :=
  k _ c' _ tk (R'.grow (Gr.push _)) (Ext.trans R e (Ext.grow (Gr.push _))) (IsV.newT R'.fresh hv)

theorem ev_list (S : Snd X tb n) {es : List Expr} {r : List PV × St} (h : Lm.evs (fun e => Lm.ev tb n sc e ls) es σ r) : EvOk X (n + 1) sc (.List es pos) ls σ (.lst r.1) r.2 := fun c s A E env Q a k => by
  refine wpAny_List (S.evs h c s A E env pos _ (a.le (Nat.le_succ n)) fun vs c1 h1 t1 R1 e1 v1 => ⟨?_, ?_⟩)
  · rw [v1.length, sizeLine_eq]; exact Nat.le_trans (evs_len h).1 (by decide)
  · exact Nxs.newL (s := s) k a.rep R1 e1 v1
theorem ev_tuple (S : Snd X tb n) {es : List Expr} {r : List PV × St} {kk : Nat} (h : Lm.evs (fun e => Lm.ev tb n sc e ls) es σ r) : EvOk X (n + 1) sc (.Tuple es kk pos) ls σ (.tup r.1) r.2 := fun c s A E env Q a k => by
  refine wpAny_Tuple (S.evs h c s A E env pos _ (a.le (Nat.le_succ n)) fun vs c1 h1 t1 R1 e1 v1 => ⟨?_, ?_⟩)
  · rw [v1.length, sizeLine_eq]; exact Nat.le_trans (evs_len h).1 (by decide)
  · exact Nxs.newT (s := s) k a.rep R1 e1 v1

theorem ev_cmp (W : Wd X) {op : CmpOp} {bb : Bool} (hl : EvOk X n sc l ls σ p σ1) (hr : EvOk X n sc r ls σ1 q σ2) (hm : behindInMarks op r = false) (e : cmpc σ2 op p q = some bb) : EvOk X (n + 1) sc (.Compare l [op] [r] pos) ls σ (.bool bb) σ2 := fun c s A E env Q a k => by
  refine wpAny_Compare1 (hl c s A E env _ (a.le (Nat.le_succ n)) fun v c1 h1 t1 R1 e1 v1 => ?_) hm
  refine hr c1 _ A E env _ ((a.next R1 e1).le (Nat.le_succ n)) fun u c2 h2 t2 R2 e2 v2 => ?_
  exact oI e fun hd e => op_cmp W R2 (a.room.fit (Nat.lt_of_le_of_lt hd (by decide))) e (v1.mono (e2.presN R1)) v2 fun tk => k _ c2 h2 tk R2 (Ext.trans a.rep e1 e2) .bool'
theorem tr_cmp (W : Wd X) {op : CmpOp} {bb : Bool} (hl : EvOk X n sc l ls σ p σ1) (hr : EvOk X n sc r ls σ1 q σ2) (hm : behindInMarks op r = false) (e : cmpc σ2 op p q = some bb) : TrOk X (n + 1) sc (.Compare l [op] [r] pos) ls σ bb σ2 := fun c s A E env Q a k => by
  refine wpAny_isTrue_Compare1 (hl c s A E env _ (a.le (Nat.le_succ n)) fun v c1 h1 t1 R1 e1 v1 => ?_) hm
  refine hr c1 _ A E env _ ((a.next R1 e1).le (Nat.le_succ n)) fun u c2 h2 t2 R2 e2 v2 => ?_
  exact oI e fun hd e => op_cmp W R2 (a.room.fit (Nat.lt_of_le_of_lt hd (by decide))) e (v1.mono (e2.presN R1)) v2 fun tk => wpAny_truthy_bool (k c2 h2 tk R2 (Ext.trans a.rep e1 e2))
end
end Lm
end
section
open PySem PySem.W PyProof.Rows
set_option Elab.async false
set_option autoImplicit false
set_option linter.unusedVariables false
set_option linter.unusedSectionVars false
set_option linter.unusedSimpArgs false
set_option tactic.hygienic false
namespace Lm
section
variable {X : Cx} {tb : Tab} {n : Nat} {sc : Scope} {ls : Ls} {σ σ1 σ2 σ3 : St} {c : Cfg} {A : Around} {env : Env} {s : Shared} {E : Value → Shared → Prop} {e l r x y t b o i : Expr} {pos : Pos} {p q u : PV}

-- truth
theorem tr_not {bb : Bool} (h : TrOk X n sc x ls σ bb σ1) : TrOk X (n + 1) sc (.UnaryOp .Not x pos) ls σ (!bb) σ1 := fun c s A E env Q a k =>
  wpAny_isTrue_Not (h c s A E env _ (a.le (Nat.le_succ n)) fun c1 h1 t1 R1 e1 => k c1 h1 t1 R1 e1)
/-- the rest of an and | or -/
theorem tr_bool_nil {op : BoolOp} : TrOk X n sc (.BoolOp op [] pos) ls σ (op == .And) σ := fun c s A E env Q a k => by
  refine wpAny_isTrue_BoolOp ?_
  cases op
  · exact wpAny_allTrue_And_nil (k c s.heap s.toks a.rep Ext.refl)
  · exact wpAny_allTrue_Or_nil (k c s.heap s.toks a.rep Ext.refl)
theorem allTrue_of {op : BoolOp} {es : List Expr} {bb : Bool} (h : TrOk X n sc (.BoolOp op es pos) ls σ bb σ1) (c : Cfg) (s : Shared) (A : Around) (E : Value → Shared → Prop) (env : Env) (Q : Bool → Shared → Prop) (a : At X n sc ls σ c A env s.heap)
    (k : ∀ c' h' tk, Rep X c' σ1 h' → Ext c σ s.heap c' σ1 h' NoZ → Q bb { s with heap := h', toks := tk }) : wpAny (model X.prog X.w) A (allTrue op es env) Q E s := by
  have := h c s A E env Q a k
  rwa [show isTrue (.BoolOp op es pos) env (eval (.BoolOp op es pos) env) = allTrue op es env from rfl] at this
theorem tr_bool_cons {op : BoolOp} {es : List Expr} {b1 b2 : Bool} {pos' : Pos} (h : TrOk X n sc x ls σ b1 σ1) (hgo : ((op == .And) == b1) = true → TrOk X n sc (.BoolOp op es pos') ls σ1 b2 σ2) (hst : ((op == .And) == b1) = false → b2 = b1 ∧ σ2 = σ1) :
    TrOk X (n + 1) sc (.BoolOp op (x :: es) pos) ls σ b2 σ2 := fun c s A E env Q a k => by
  refine wpAny_isTrue_BoolOp ?_
  cases op with
  | And =>
    refine wpAny_allTrue_And_cons (h c s A E env _ (a.le (Nat.le_succ n)) fun c1 h1 t1 R1 e1 => ?_)
    cases b1 with
    | true => exact allTrue_of (hgo rfl) c1 _ A E env _ ((a.next R1 e1).le (Nat.le_succ n)) fun c2 h2 t2 R2 e2 => k c2 h2 t2 R2 (Ext.trans a.rep e1 e2)
    | false => obtain ⟨rfl, rfl⟩ := hst rfl; exact k c1 h1 t1 R1 e1
  | Or =>
    refine wpAny_allTrue_Or_cons (h c s A E env _ (a.le (Nat.le_succ n)) fun c1 h1 t1 R1 e1 => ?_)
    cases b1 with
    | false => exact allTrue_of (hgo rfl) c1 _ A E env _ ((a.next R1 e1).le (Nat.le_succ n)) fun c2 h2 t2 R2 e2 => k c2 h2 t2 R2 (Ext.trans a.rep e1 e2)
    | true => obtain ⟨rfl, rfl⟩ := hst rfl; exact k c1 h1 t1 R1 e1
theorem tr_value {bb : Bool} (h : EvOk X n sc e ls σ (.bool bb) σ1) (hp : plainTest e = true) : TrOk X (n + 1) sc e ls σ bb σ1 := fun c s A E env Q a k => by
  refine wpAny_isTrue_value (h c s A E env _ (a.le (Nat.le_succ n)) fun v c1 h1 t1 R1 e1 v1 => v1.boolE (wpAny_truthy_bool (k c1 h1 t1 R1 e1))) ?_
  clear h
  cases e <;> first | rfl | exact bF hp
theorem wpAny_rel {M : Model} {vs ks : List Value} {Q : Unit → Shared → Prop} (hq : Q () s) : wpAny M A (release vs ks) Q E s := fun Γ p hΓ => by rw [Sem.wp_release]; exact hq
theorem tr_chain (W : Wd X) {op1 op2 : CmpOp} {b1 b2 : Bool} {r1 r2 : Expr} (hl : EvOk X n sc l ls σ p σ1) (hr : EvOk X n sc r1 ls σ1 q σ2) (e1 : cmpc σ2 op1 p q = some b1)
    (hgo : b1 = true → EvOk X n sc r2 ls σ2 u σ3 ∧ behindInMarks op2 r2 = false ∧ cmpc σ3 op2 q u = some b2) (hst : b1 = false → b2 = false ∧ σ3 = σ2) : TrOk X (n + 1) sc (.Compare l [op1, op2] [r1, r2] pos) ls σ b2 σ3 := fun c s A E env Q a k => by
  show wpAny _ _ (do testChain pos (← eval l env) [op1, op2] [eval r1 env, markedBehindIn op2 r2 (eval r2 env)]) Q E s
  refine wpAny_bind (hl c s A E env _ (a.le (Nat.le_succ n)) fun v c1 h1 t1 R1 x1 v1 => ?_)
  refine wpAny_bind (m := holding [v] (eval r1 env)) (wpAny_holding (hr c1 _ A E env _ ((a.next R1 x1).le (Nat.le_succ n)) fun v' c2 h2 t2 R2 x2 v2 => ?_))
  refine oI e1 fun hd e1 => wpAny_bind (wpAny_standAt (wpAny_bind (wpAny_holding (op_cmp W R2 (a.room.fit (Nat.lt_of_le_of_lt hd (by decide))) e1 (v1.mono (x2.presN R1)) v2 fun tk => ?_))))
  refine wpAny_bind (wpAny_rel (wpAny_bind (wpAny_holding (wpAny_truthy_bool ?_))))
  cases b1 with
  | false =>
    obtain ⟨rfl, rfl⟩ := hst rfl
    exact wpAny_pure (k c2 h2 tk R2 (Ext.trans a.rep x1 x2))
  | true =>
    obtain ⟨hr2, hm, e2⟩ := hgo rfl
    clear hgo hst hl hr e1
    refine wpAny_bind (m := holding [v'] (markedBehindIn op2 r2 (eval r2 env))) ?_
    rw [markedBehindIn_of_false hm]
    refine wpAny_holding (hr2 c2 _ A E env _ (((a.next R1 x1).next R2 x2).le (Nat.le_succ n)) fun v3 c3 h3 t3 R3 x3 w3 => ?_)
    exact oI e2 fun hd e2 => wpAny_bind (wpAny_standAt (wpAny_bind (wpAny_operateT (op_cmp W R3 (a.room.fit (Nat.lt_of_le_of_lt hd (by decide))) e2 (v2.mono (x3.presN R2)) w3 fun tk3 => wpAny_holding (wpAny_truthy_bool (k c3 h3 tk3 R3 (Ext.trans a.rep x1 (Ext.trans R1 x2 x3))))))))

-- and | or as values
theorem ev_bool_one {op : BoolOp} {bb : Bool} (h : EvOk X n sc x ls σ (.bool bb) σ1) : EvOk X (n + 1) sc (.BoolOp op [x] pos) ls σ (.bool bb) σ1 := fun c s A E env Q a k => by
  show wpAny _ _ (eval x env) Q E s
  exact h c s A E env Q (a.le (Nat.le_succ n)) k
theorem ev_bool_cons {op : BoolOp} {y : Expr} {es : List Expr} {b1 : Bool} (h : EvOk X n sc x ls σ (.bool b1) σ1) (hgo : ((op == .And) == b1) = true → EvOk X n sc (.BoolOp op (y :: es) pos) ls σ1 p σ2) (hst : ((op == .And) == b1) = false → p = .bool b1 ∧ σ2 = σ1) :
    EvOk X (n + 1) sc (.BoolOp op (x :: y :: es) pos) ls σ p σ2 := fun c s A E env Q a k => by
  show wpAny _ _ (do
    let v ← eval x env
    standAt pos
    let t ← holding [v] (truthy v)
    match op, t with
    | .And, false | .Or, true => pure v
    | _, _ => boolOp pos op (evalEach (y :: es) env)) Q E s
  refine wpAny_bind (h c s A E env _ (a.le (Nat.le_succ n)) fun v c1 h1 t1 R1 e1 v1 => v1.boolE (wpAny_bind (wpAny_standAt (wpAny_bind (wpAny_holding (wpAny_truthy_bool ?_))))))
  have go : ((op == .And) == b1) = true → wpAny (model X.prog X.w) A (boolOp pos op (evalEach (y :: es) env)) Q E { s with heap := h1, toks := t1 } := fun e0 =>
    hgo e0 c1 _ A E env Q ((a.next R1 e1).le (Nat.le_succ n)) (k.after a.rep e1)
  have st : ((op == .And) == b1) = false → Q (.bool b1) { s with heap := h1, toks := t1 } := fun e0 => by
    obtain ⟨rfl, rfl⟩ := hst e0
    exact k _ c1 h1 t1 R1 e1 .bool'
  clear hgo hst k h
  cases op <;> cases b1
  · exact wpAny_pure (st rfl)
  · exact go rfl
  · exact go rfl
  · exact wpAny_pure (st rfl)
end
end Lm
end
section
open PySem PySem.W PyProof.Rows
set_option Elab.async false
set_option autoImplicit false
set_option linter.unusedVariables false
set_option linter.unusedSectionVars false
set_option linter.unusedSimpArgs false
set_option tactic.hygienic false
namespace Lm
section
variable {X : Cx} {tb : Tab} {n : Nat} {sc : Scope} {ls : Ls} {σ σ1 σ2 σ3 : St} {c : Cfg} {A : Around} {env : Env} {s : Shared} {E : Value → Shared → Prop} {e l r t b o i : Expr} {pos : Pos} {p q u : PV} {v : Value} {h : Heap}

theorem inst_at {C a d : Addr} {es : List DictEntry} {m : Nat} (h1 : s.heap.get? a = some (instObj C d)) (h2 : s.heap.get? d = some (dictOf es m)) : InstAt s.heap a (instObj C d) C (some (dictOf es m)) := ⟨h1, rfl, rfl, h2⟩

/-- an attribute is read off an object -/
theorem get_at (W : Wd X) (R : Rep X c σ s.heap) {C x : Str} {a d : Addr} {es : List DictEntry} {m : Nat} {kws : List (Str × Value)} {w : Value} (cf : ClsFacts X C) (hx : findIn X.K (.ref (X.ca C)) x = some none) (h1 : s.heap.get? a = some (instObj (X.ca C) d)) (h2 : s.heap.get? d = some (dictOf es m))
    (he : EsAt es kws) (hl : kws.lookup x = some w) (hh : handedIn w = true) {Q : Value → Shared → Prop} {expr : Bool} (k : ∀ tk, Q w { s with toks := tk }) : wpAny (model X.prog X.w) A (getAttr (.ref a) x expr) Q E s :=
  get_value (R.K W) (inst_at h1 h2) cf.ga (findObj_own cf.hd hx rfl (by rw [lookIn_dict, (he.getL (x := x)).1, hl])) hh (k _)

theorem op_attr (W : Wd X) (T : TabOk X tb) (R : Rep X c σ s.heap) {x : Str} {r : PV} (e : attrv tb σ p x = some r) (hp : IsV X c s.heap p v) {Q : Value → Shared → Prop} {expr : Bool} (k : ∀ v' tk, IsV X c s.heap r v' → Q v' { s with toks := tk }) :
    wpAny (model X.prog X.w) A (getAttr v x expr) Q E s := by
  have fin : ∀ {C : Str} {ks : List Str} {vs : List PV} {a d : Addr} {es : List DictEntry} {m : Nat} {ws : List Value}, s.heap.get? a = some (instObj (X.ca C) d) → s.heap.get? d = some (dictOf es m) → EsAt es (List.zip ks ws) → IsVs X c s.heap vs ws → attrI tb C ks vs x = some r → wpAny (model X.prog X.w) A (getAttr (.ref a) x expr) Q E s := fun {C ks vs a d es m ws} h1 h2 he hv e => oI e fun hc e => by
    obtain ⟨cf, hx⟩ := T.plain C x hc.2
    obtain ⟨w, hw, hr⟩ := lookup_zip hv e
    exact get_at W R cf hx h1 h2 he hw hr.handed fun tk => k w tk hr
  cases p with
  | inst C ks vs =>
    exact hp.instE fun a d es m ws h1 h2 _ _ _ he hv => fin h1 h2 he hv e
  | obj l =>
    refine oB e fun o hH e1 => oB e1 fun y hy e2 => hp.objE fun a d hρ => ?_
    have ho := (R.at hH hρ).2
    rw [instO_eq hy] at ho
    obtain ⟨es, m, ws, h1, m1, h2, hz, he, hv⟩ := ho
    exact fin h1 h2 he hv e2
  | _ => exact nO e

theorem base_eq (o : Expr) (x : Str) (env : Env) (whole : Sem Value) (h : plainBase o = true) : attributeBase o x env whole = whole := by
  cases o <;> first | rfl | exact bF h
theorem ev_attr (W : Wd X) (T : TabOk X tb) {x : Str} {r : PV} (hb : plainBase o = true) (ho : EvOk X n sc o ls σ p σ1) (e : attrv tb σ1 p x = some r) : EvOk X (n + 1) sc (.Attribute o x pos) ls σ r σ1 := fun c s A E env Q a k => by
  show wpAny _ _ (do
    let ov ← attributeBase o x env (eval o env)
    standAt pos.atName
    let r ← holding [ov] (getAttr ov x true)
    letTemporaryGo o ov r
    pure r) Q E s
  rw [base_eq o x env _ hb]
  refine wpAny_bind (ho c s A E env _ (a.le (Nat.le_succ n)) fun v c1 h1 t1 R1 e1 v1 => wpAny_bind (wpAny_standAt (wpAny_bind (wpAny_holding ?_))))
  exact op_attr W T R1 e v1 fun v' tk hv' => wpAny_bind (wpAny_letTemporaryGo (wpAny_pure (k v' c1 h1 tk R1 e1 hv')))

theorem sub_open {M : Model} {value slice : Expr} {Q : Value → Shared → Prop} (h : wpAny M A (eval value env) (fun ov s1 => wpAny M A (eval slice env) (fun iv s2 => wpAny M A (subscriptTail value slice ov iv) Q E s2) E s1) E s) :
    wpAny M A (eval (.Subscript value slice pos) env) Q E s := by
  show wpAny M A (do
    let o ← eval value env
    let i ← holding [o] (eval slice env)
    standAt pos
    let r ← subscripted slice (← getitemInPython o) o i
    letTemporaryGo value o r
    pure r) Q E s
  refine wpAny_bind (wpAny_mono h (fun o s1 h1 => wpAny_bind (wpAny_holding (wpAny_mono h1 (fun i s2 h2 => wpAny_bind (wpAny_standAt ?_)) fun _ _ x => x))) fun _ _ x => x)
  exact h2
theorem ev_sub {r : PV} (ho : EvOk X n sc o ls σ p σ1) (hi : EvOk X n sc i ls σ1 q σ2) (e : subv σ2 p q = some r) : EvOk X (n + 1) sc (.Subscript o i pos) ls σ r σ2 := fun c s A E env Q a k => by
  refine sub_open (ho c s A E env _ (a.le (Nat.le_succ n)) fun v c1 h1 t1 R1 e1 v1 => ?_)
  refine hi c1 _ A E env _ ((a.next R1 e1).le (Nat.le_succ n)) fun u c2 h2 t2 R2 e2 v2 => ?_
  exact op_sub R2 (a.room.fit (by decide)) e (v1.mono (e2.presN R1)) v2 fun v' tk hv' => k v' c2 h2 tk R2 (Ext.trans a.rep e1 e2) hv'
theorem evO_none : EvOOk X n sc none ls σ none σ := fun c s A E env Q a k => by
  rw [evalPart_none]; exact wpAny_pure (k _ c s.heap s.toks a.rep Ext.refl .none)
theorem evO_some {j : Int} (h : EvOk X n sc e ls σ (.int j) σ1) : EvOOk X n sc (some e) ls σ (some j) σ1 := fun c s A E env Q a k => by
  rw [evalPart_some]
  exact h c s A E env _ a fun v c1 h1 t1 R1 e1 v1 => v1.intE fun t => k _ c1 h1 t1 R1 e1 (.int _ _)
theorem ev_slice {lo hi : Option Expr} {jl jh : Option Int} {r : PV} {sp : Pos} (ho : EvOk X n sc o ls σ p σ1) (hl : EvOOk X n sc lo ls σ1 jl σ2) (hh : EvOOk X n sc hi ls σ2 jh σ3) (e : slcS σ3 p jl jh = some r) : EvOk X (n + 1) sc (.Subscript o (.Slice lo hi none sp) pos) ls σ r σ3 := fun c s A E env Q a k => by
  refine sub_open (ho c s A E env _ (a.le (Nat.le_succ n)) fun v c1 h1 t1 R1 e1 v1 => ?_)
  refine wpAny_Slice ?_
  refine hl c1 _ A E env _ ((a.next R1 e1).le (Nat.le_succ n)) fun w c2 h2 t2 R2 e2 w2 => ?_
  refine hh c2 _ A E env _ (((a.next R1 e1).next R2 e2).le (Nat.le_succ n)) fun w' c3 h3 t3 R3 e3 w3 => ?_
  rw [evalPart_none]
  refine wpAny_pure ?_
  have E3 := Ext.trans a.rep e1 (Ext.trans R1 e2 e3)
  have v3 := v1.mono ((Ext.trans R1 e2 e3).presN R1)
  have kp : Pu X c3 { s with heap := h3, toks := t3 } r Q := ((k.after (tk := t1) a.rep e1).after (tk := t3) R1 (Ext.trans R1 e2 e3)).pu R3
  unfold slcS at e
  cases hl : asO p with
  | none => rw [hl] at e; exact op_slc R3.fresh e v3 w2 w3 kp
  | some l =>
    rw [hl] at e
    rw [asO_eq hl] at v3
    refine oB (show (σ3.H l).bind _ = some r from e) fun o hH e => oB e fun l' ho e => v3.objE fun d d' hρ => ?_
    have ho' := (R3.at hH hρ).2
    rw [asLs_eq ho] at ho'
    obtain ⟨rfl, vs, m, h1', h2'⟩ := ho'
    revert kp
    refine oIs (show (if l'.length ≤ 16777216 then _ else _) = some r from e) fun hsz kp => ?_
    have G := Gr.push (h := h3) { cls := .type "slice", data := .fields #[w, w', .none] }
    have hs := Heap.IsSliceOf.new h3 w w' .none
    have hlen : vs.size = _ := h2'.length
    have hL : ({ s with heap := h3.push { cls := .type "slice", data := .fields #[w, w', .none] }, toks := t3 } : Shared).heap.IsList _ vs := ⟨_, G _ _ h1', rfl, m, rfl⟩
    refine sub_tail ⟨"list", _, slot_list_getitem.lookup, hL.typeIs, wpAny_getItem_list_slice hL hs w2 w3 .none (fun h => nO' h.symm) ?_ (by rw [sizeLine_eq, hlen]; exact hsz)⟩
    have hn := IsV.newL (R3.fresh.gr G) (IsVs.take (jh.elim l'.length (clipAt l'.length) - jl.elim 0 (clipAt l'.length)) (IsVs.drop (jl.elim 0 (clipAt l'.length)) (h2'.gr G)))
    rw [slicePick_plain, hlen]
    exact kp _ _ _ (G.trans (Gr.push _)) hn
end
end Lm
end
section
open PySem PySem.W PyProof.Rows
set_option Elab.async false
set_option autoImplicit false
set_option linter.unusedVariables false
set_option linter.unusedSectionVars false
set_option linter.unusedSimpArgs false
set_option tactic.hygienic false
namespace Lm
section
variable {X : Cx} {tb : Tab} {n : Nat} {sc : Scope} {ls : Ls} {σ σ1 σ2 σ3 : St} {c : Cfg} {A : Around} {env : Env} {s : Shared} {E : Value → Shared → Prop} {e l r t b o i : Expr} {pos : Pos} {p q u : PV} {v : Value} {h : Heap}

theorem putR_len (x : Str) (v : Value) (l : List (Str × Value)) : (putR x v l).length ≤ l.length + 1 := by
  induction l with
  | nil => exact Nat.le_refl _
  | cons a l ih =>
    show (if a.1 = x then (a.1, v) :: l else a :: putR x v l).length ≤ _
    by_cases h : a.1 = x
    · rw [if_pos h]; exact Nat.le_succ _
    · rw [if_neg h]; exact Nat.succ_le_succ ih
theorem set_at (W : Wd X) (R : Rep X c σ s.heap) {C x : Str} {a d : Addr} {es : List DictEntry} {m : Nat} {kws : List (Str × Value)} (cf : ClsFacts X C) (hx : findIn X.K (.ref (X.ca C)) x = some none) (h1 : s.heap.get? a = some (instObj (X.ca C) d)) (h2 : s.heap.get? d = some (dictOf es m))
    (he : EsAt es kws) (hz : es.length ≤ 1000) {Q : Unit → Shared → Prop}
    (k : ∀ h' m' tk hs t, Heap.SameBut d s.heap h' → h'.get? d = some (dictOf (putL x hs (.str x t) v es) m') → Q () { s with heap := h', toks := tk }) : wpAny (model X.prog X.w) A (setAttr (.ref a) x v) Q E s := by
  have KI := R.K W
  have I := inst_at h1 h2
  refine set_plain KI I cf.sa ?_
  refine osa_open (s := { s with toks := s.toks + 1 }) (r := none) KI I cf.po (by unfold takerIn; rw [hx]; rfl) fun bb => ?_
  obtain ⟨cd, hc, hd'⟩ := any_some cf.hd
  have KI' : X.K.In ({ s with toks := s.toks + 1 } : Shared).heap := KI
  refine wpAny_bind (wpAny_pure (wpAny_bind (wpAny_bind (wpAny_loadPart h1 (wpAny_bind ((looks_clsIn KI' hc).here ?_))))))
  rw [hd']
  refine wpAny_pure (a := some d) (wpAny_bind (wpAny_pure (wpAny_bind ?_)))
  unfold nsSet
  refine wpAny_bind (wpAny_bind (wpAny_askSetting (wpAny_pure (wpAny_bind (wpAny_mkText (wpAny_bind (wpAny_loadPart h2 ?_)))))))
  have cc : (!es.toArray.any (·.key.isStr x) && es.toArray.any (·.refKey)) = false := by
    rw [← Array.any_toList, ← Array.any_toList]
    show (!es.any _ && es.any (·.refKey)) = false
    rw [(he.getL (x := x)).2, Bool.and_false]
  dsimp only
  rw [aRefKeyMayBeTheName_at, cc]
  have put := putName_dict x (PyData.keyHash X.w.params x) (.str x (s.toks + 1)) v es m
  have hu : (s.heap.update d (Obj.putName x (PyData.keyHash X.w.params x) (.str x (s.toks + 1)) v)).get? d = some (dictOf (putL x (PyData.keyHash X.w.params x) (.str x (s.toks + 1)) v es) (putN x es m)) := by
    rw [← put]; exact Heap.get?_update_self _ h2 (by rw [put]; rfl)
  refine wpAny_updatePart h2 ?_
  have hsz : (putL x (PyData.keyHash X.w.params x) (.str x (s.toks + 1)) v es).length ≤ 1001 := by
    rw [(he.put (x := x) (hs := PyData.keyHash X.w.params x) (t := s.toks + 1) (v := v)).len]
    exact Nat.le_trans (putR_len x v kws) (Nat.succ_le_succ (he.len ▸ hz))
  refine wpAny_bind (wpAny_lookBehind hu (pastItsLine_dict (by rw [List.size_toArray, sizeLine_eq]; exact Nat.le_trans hsz (by decide))) ?_)
  exact wpAny_pure (k _ _ _ _ _ (Heap.SameBut.update ..) hu)

theorem pres_turn {c : Cfg} {h h' : Heap} {d : Addr} (hM : c.M d) (hs : Heap.SameBut d h h') : Pres c h c h' := ⟨fun a o e n => ⟨(hs.2 a fun z => n (z ▸ hM)).trans e, n⟩, fun _ _ e => e⟩

theorem setAt_ok {x : Str} {c : Cfg} (hq : IsV X c h q v) {ks : List Str} {vs : List PV} {ws : List Value} (e : ks.length = vs.length) (f : IsVs X c h vs ws) :
    (setAt ks vs x q).1.length = (setAt ks vs x q).2.length ∧ (setAt ks vs x q).1.length ≤ ks.length + 1 ∧ ∃ ws', putR x v (List.zip ks ws) = List.zip (setAt ks vs x q).1 ws' ∧ IsVs X c h (setAt ks vs x q).2 ws' := by
  induction ks generalizing vs ws with
  | nil => cases vs with
    | nil => exact ⟨rfl, Nat.le_refl _, [v], rfl, .cons hq .nil⟩
    | cons => cases e
  | cons k ks ih => cases vs with
    | nil => cases e
    | cons p vs =>
      refine f.consE fun w r f1 f2 => ?_
      have hs : setAt (k :: ks) (p :: vs) x q = if k = x then (k :: ks, q :: vs) else (k :: (setAt ks vs x q).1, p :: (setAt ks vs x q).2) := rfl
      have hr : putR x v (List.zip (k :: ks) (w :: r)) = if k = x then (k, v) :: List.zip ks r else (k, w) :: putR x v (List.zip ks r) := rfl
      rw [hs, hr]
      by_cases hk : k = x
      · rw [if_pos hk, if_pos hk]; exact ⟨e, Nat.le_succ _, v :: r, rfl, .cons hq f2⟩
      · obtain ⟨i1, i2, ws', i3, i4⟩ := ih (Nat.succ.inj e) f2
        rw [if_neg hk, if_neg hk]
        exact ⟨congrArg Nat.succ i1, Nat.succ_le_succ i2, w :: ws', by rw [i3]; rfl, .cons f1 i4⟩

theorem op_setattr (W : Wd X) (T : TabOk X tb) (R : Rep X c σ s.heap) {x : Str} (e : setAttrv tb σ p x q = some σ1) {ov : Value} (hp : IsV X c s.heap p ov) (hq : IsV X c s.heap q v) {Q : Unit → Shared → Prop}
    (k : ∀ h' tk, Rep X c σ1 h' → Ext c σ s.heap c σ1 h' NoZ → Q () { s with heap := h', toks := tk }) : wpAny (model X.prog X.w) A (setAttr ov x v) Q E s := by
  refine oB e fun l hl e0 => oB e0 fun o hH e1 => oB e1 fun y hy e2 => ?_
  obtain ⟨C, ks, vs⟩ := y
  rw [asO_eq hl] at hp
  rw [instO_eq hy] at hH
  clear e e0 e1
  refine oI e2 fun hc e3 => hp.objE fun a d hρ => ?_
  rw [← Option.some.inj e3] at k
  clear e2 e3
  obtain ⟨hM, es, m, ws, h1, m1, h2, hz, he, hv⟩ := R.at hH hρ
  obtain ⟨cf, hx⟩ := T.plain C x hc.2.2
  refine set_at W R cf hx h1 h2 he (Nat.le_trans hz (by decide)) fun h' m' tk hs t sb hd => ?_
  obtain ⟨i1, i2, ws', i3, i4⟩ := setAt_ok (x := x) (hq.mono (pres_turn hM sb)) hc.1 (IsVs.mono (pres_turn hM sb) hv)
  have had : a ≠ d := fun z => by rw [z, h2] at h1; exact nomatch Option.some.inj h1
  have O : ORep X c h' (.inst C (setAt ks vs x q).1 (setAt ks vs x q).2) a d := by
    refine ⟨_, m', ws', (sb.2 a had).trans h1, m1, hd, ?_, ?_, i4⟩
    · rw [(he.put (x := x) (hs := hs) (t := t) (v := v)).len]
      refine Nat.le_trans (putR_len _ _ _) (Nat.le_trans (Nat.succ_le_succ ?_) (Nat.le_trans hc.2.1 (by decide)))
      show (List.zip ks ws).length ≤ ks.length
      rw [List.length_zip]; exact Nat.min_le_left _ _
    · rw [← i3]; exact he.put
  exact k h' tk (R.turn hH hρ sb O) (Ext.turn R hH hρ sb O.live)
theorem set_list {l : Addr} {items : Array Value} {m : Nat} {j : Int} {t : Tok} {Q : Unit → Shared → Prop} (hl : s.heap.get? l = some (lstObj items m)) (h0 : 0 ≤ j) (hfit : j < 2 ^ 63) (hn : j < items.size)
    (hQ : ∀ h' m', h'.get? l = some (lstObj (items.setIfInBounds j.toNat v) m') → Heap.SameBut l s.heap h' → Q () { s with heap := h' }) : wpAny (model X.prog X.w) A (setItem (.ref l) (.int j t) v) Q E s := by
  have hL : s.heap.IsList l items := isLst hl
  unfold setItem
  try with_reducible refine wpAny_holding ?_
  refine wpAny_bind (wpAny_sequenceKey hL.typeIs (by decide) ?_)
  refine wpAny_bind (wpAny_callSpecial?_slot (name := Str.ofString "__setitem__") hL.typeIs slot_list_setitem (wpAny_call_entry slot_list_setitem hL.typeIs entry_list_setitem ?_ (args_list_setitem _ _ _)))
  show wpAny _ _ (Builtin.List.listSubscript? (.int j t) >>= _) _ _ s
  refine wpAny_bind (wpAny_listSubscript_int (fitsIndex_of h0 hfit) ?_)
  clear hfit
  obtain ⟨j, rfl⟩ := Int.eq_ofNat_of_zero_le h0
  have hj : j < items.size := by lia
  have hx' : items[j]? = some items[j] := Array.getElem?_eq_getElem hj
  show wpAny _ _ ((seqItemAt l j >>= fun r => pure (r.map (j, ·))) >>= _) _ _ s
  refine wpAny_bind (wpAny_bind (wpAny_seqItemAt hl rfl (wpAny_pure ?_)))
  rw [hx']
  show wpAny _ _ (setSeqItemAt l j v >>= _) _ _ s
  have hfin := get?_update_seq hl (fun xs => xs.setIfInBounds j v)
  refine wpAny_bind (wpAny_setSeqItemAt hl rfl ?_)
  first
    | exact wpAny_bind (wpAny_pure (wpAny_pure ⟨.none, rfl, wpAny_pure (hQ _ _ hfin (Heap.SameBut.update ..))⟩))
    | exact wpAny_pure ⟨.none, rfl, wpAny_pure (hQ _ _ hfin (Heap.SameBut.update ..))⟩

theorem IsVs.set {c : Cfg} {h : Heap} (hq : IsV X c h q v) {l : List PV} {vs : List Value} (j : Nat) (f : IsVs X c h l vs) : IsVs X c h (l.set j q) (vs.set j v) := by
  induction l generalizing vs j with
  | nil => exact f.nilE .nil
  | cons p l ih =>
    refine f.consE fun w r f1 f2 => ?_
    cases j with
    | zero => exact .cons hq f2
    | succ j => exact .cons f1 (ih j f2)

theorem storedH_stored (nk : NK) (b : Addr) (v : Value) (xs : List (NK × Addr × Value)) : (storedH xs nk b v).map (fun x => (x.1, x.2.2)) = stored (xs.map fun x => (x.1, x.2.2)) nk v := by
  have h1 : (xs.map fun x => (x.1, x.2.2)).any (fun kv => decide (kv.1 = nk)) = (atKey xs nk).isSome := by
    induction xs with
    | nil => rfl
    | cons x r ih =>
      rw [List.map_cons, List.any_cons, ih, show atKey (x :: r) nk = if x.1 = nk then some x.2 else atKey r nk from find_cons x r nk]
      by_cases hx : x.1 = nk
      · rw [if_pos hx, decide_eq_true hx]; rfl
      · rw [if_neg hx, decide_eq_false hx]; rfl
  unfold storedH stored
  rw [h1]
  by_cases hs : (atKey xs nk).isSome = true
  · rw [if_pos hs, if_pos hs, List.map_map, List.map_map]
    refine List.map_congr_left fun x hx => ?_
    show (fun x : NK × Addr × Value => (x.1, x.2.2)) (if x.1 = nk then (x.1, x.2.1, v) else x) = if x.1 = nk then (x.1, v) else (x.1, x.2.2)
    by_cases hk : x.1 = nk
    · rw [if_pos hk, if_pos hk]
    · rw [if_neg hk, if_neg hk]
  · rw [if_neg hs, if_neg hs, List.map_append]; rfl
theorem storedH_keys {nk : NK} {b : Addr} {v : Value} {xs : List (NK × Addr × Value)} {x : NK × Addr × Value} (hx : x ∈ storedH xs nk b v) : (∃ y ∈ xs, y.1 = x.1 ∧ y.2.1 = x.2.1) ∨ (x.1 = nk ∧ x.2.1 = b) := by
  unfold storedH at hx
  split at hx
  · obtain ⟨y, hy, rfl⟩ := List.mem_map.mp hx
    refine .inl ⟨y, hy, ?_⟩
    unfold putAt
    split <;> simp
  · rcases List.mem_append.mp hx with h | h
    · exact .inl ⟨x, h, rfl, rfl⟩
    · rw [List.mem_singleton] at h; subst h; exact .inr ⟨rfl, rfl⟩

theorem op_setitem (W : Wd X) (R : Rep X c σ s.heap) (hu : A.units + 10 < cLine) (e : setItemv σ p u q = some σ1) {ov iv : Value} (hp : IsV X c s.heap p ov) (hi : IsV X c s.heap u iv) (hq : IsV X c s.heap q v) {Q : Unit → Shared → Prop}
    (k : ∀ h' tk, Rep X c σ1 h' → Ext c σ s.heap c σ1 h' NoZ → Q () { s with heap := h', toks := tk }) : wpAny (model X.prog X.w) A (setItem ov iv v) Q E s := by
  refine oB e fun l hl e0 => oB e0 fun o hH e1 => oB e1 fun o' ho' e2 => ?_
  rw [asO_eq hl] at hp
  clear e e0 e1
  rw [← Option.some.inj e2] at k
  clear e2
  refine hp.objE fun a d hρ => ?_
  obtain ⟨hM, ho⟩ := R.at hH hρ
  have fin : ∀ {h' tk}, Heap.SameBut d s.heap h' → ORep X c h' o' a d → Q () { s with heap := h', toks := tk } := fun sb O => k _ _ (R.turn hH hρ sb O) (Ext.turn R hH hρ sb O.live)
  have P : ∀ {h'}, Heap.SameBut d s.heap h' → Pres c s.heap c h' := fun sb => pres_turn hM sb
  clear k hp hl hρ hM hH R W
  revert fin
  cases o with
  | lst l' =>
    refine oB (show (asI u).bind _ = some o' from ho') fun j hj e1 => oIs e1 fun hb fin => ?_
    rw [asI_eq hj] at hi
    obtain ⟨rfl, vs, m, h1, h2⟩ := ho
    have hlen : vs.size = _ := h2.length
    exact hi.intE fun t => set_list h1 hb.1 hb.2.2 (by rw [hlen]; exact hb.2.1) fun h' m' hd sb => fin (tk := s.toks) sb ⟨rfl, _, m', hd, by rw [Array.toList_setIfInBounds]; exact (IsVs.mono (P sb) h2).set (hq.mono (P sb)) j.toNat⟩
  | di es =>
    refine oB (show (asI u).bind _ = some o' from ho') fun j hj e1 => oIs e1 fun hb fin => ?_
    rw [asI_eq hj] at hi
    obtain ⟨rfl, kvs, h1, h2⟩ := ho
    exact hi.intE fun t => wpAny_setItem_pairs (knd := intKind X.prog X.w) (k := j) (keyI _ _ j t) h1 (fun h' hd sb => fin sb ⟨rfl, _, hd, (h2.mono (P sb)).sto (hq.mono (P sb))⟩) (by rw [sizeLine_eq, h2.length]; exact Nat.le_trans hb (by decide))
  | ds es =>
    refine oB (show (asS u).bind _ = some o' from ho') fun j hj e1 => oIs e1 fun hb fin => ?_
    rw [asS_eq hj] at hi
    obtain ⟨rfl, kvs, h1, h2⟩ := ho
    exact hi.strE fun t => wpAny_setItem_pairs (knd := PySem.strKind X.prog X.w) (k := j) (keyS _ _ j t) h1 (fun h' hd sb => fin sb ⟨rfl, _, hd, (h2.mono (P sb)).sto (hq.mono (P sb))⟩) (by rw [sizeLine_eq, h2.length]; exact Nat.le_trans hb (by decide))
  | dn es =>
    refine oB (show (asNK u).bind _ = some o' from ho') fun nk hj e1 => oIs e1 fun hb fin => ?_
    obtain ⟨rfl, xs, h1, h0, h2, h3⟩ := ho
    rw [asNK_eq hj] at hi
    have hi0 := hi
    obtain ⟨b, rfl, hk⟩ := hi.isNK
    have hlen := congrArg List.length h2
    rw [List.length_map, List.length_map] at hlen
    refine wpAny_setItem_heap (knd := nkKind X.prog X.w) (k := nk) (by show A.units + 1 + 2 < cLine; lia) hk h1 (fun h' hd sb => ?_) (by rw [sizeLine_eq, ← hlen]; exact Nat.le_trans hb (by decide))
    have hm := ((dn_map h2 h3).mono (P sb)).sto (k := nk) (hq.mono (P sb))
    rw [← storedH_stored nk b v xs] at hm
    refine fin sb ⟨rfl, _, hd, fun x hx => ?_, ?_, ?_⟩
    · rcases storedH_keys hx with ⟨y, hy, e3, e4⟩ | ⟨e3, e4⟩
      · rw [← e3, ← e4]; exact (h0 y hy).mono (P sb)
      · rw [e3, e4]; exact hi0.mono (P sb)
    · have := hm.1; rw [List.map_map] at this; exact this
    · have := hm.2; rw [List.map_map] at this; exact this
  | inst => exact nO ho'
end
end Lm
end
section
open PySem PySem.W PyProof.Rows
set_option Elab.async false
set_option autoImplicit false
set_option linter.unusedVariables false
set_option linter.unusedSectionVars false
set_option linter.unusedSimpArgs false
set_option tactic.hygienic false
namespace Lm

section
variable {prog : Program} {w : World} {A : Around} {E : Value → Shared → Prop} {s : Shared} {d a : Addr} {k : NK} {xs : List (NK × Addr × Value)}

theorem erase_filter {xs : List (NK × Addr × Value)} {j : Nat} {p : Addr × Value} (hn : (xs.map (·.1)).Nodup) (h : xs[j]? = some (k, p)) : xs.eraseIdx j = xs.filter fun x => decide (x.1 ≠ k) := by
  induction xs generalizing j with
  | nil => exact nO h
  | cons x xs ih =>
    have hn := List.nodup_cons.mp (show (x.1 :: xs.map (·.1)).Nodup from hn)
    rw [wou_cons x xs k]
    cases j with
    | zero =>
      cases Option.some.inj h
      rw [if_pos rfl]
      refine (List.filter_eq_self.mpr fun y hy => ?_).symm
      have : y.1 ≠ k := fun e => hn.1 (e ▸ List.mem_map_of_mem (f := (·.1)) (show y ∈ xs from hy))
      exact decide_eq_true this
    | succ j =>
      have h : xs[j]? = some (k, p) := h
      have hx : ¬ x.1 = k := fun e => hn.1 (e ▸ List.mem_map_of_mem (f := (·.1)) (List.mem_of_getElem? h))
      rw [if_neg hx, List.eraseIdx_cons_succ, ih hn.2 h]

theorem eraseIdx_map' {α β : Type} (f : α → β) (l : List α) (j : Nat) : (l.map f).eraseIdx j = (l.eraseIdx j).map f := by
  induction l generalizing j with
  | nil => rfl
  | cons x l ih => cases j with
    | zero => rfl
    | succ j => exact congrArg (f x :: ·) (ih j)
theorem takeOut_heap {Q : Option DictEntry → Shared → Prop} (hu : (nkKind prog w).room A) (hkey : (nkKind prog w).is s.heap k a) (hm : s.heap.DictOfH (nkKind prog w) d xs) (hsz : xs.length ≤ 16777216)
    (hnone : atKey xs k = none → Q none { s with toks := s.toks + 7 })
    (hsome : ∀ e p, atKey xs k = some p → e.val = p.2 → ∀ h', h'.DictOfH (nkKind prog w) d (xs.filter fun x => decide (x.1 ≠ k)) → Heap.SameBut d s.heap h' → Q (some e) { s with heap := h', toks := s.toks + 7 }) :
    wpAny (model prog w) A (Builtin.Dict.takeOut d (.ref a)) Q E s := by
  obtain ⟨o, es, ep, ho, hc, hd, he, his, hn⟩ := hm
  have hes : es.size ≤ sizeLine := by rw [sizeLine_eq, size_of_entries he]; exact hsz
  unfold Builtin.Dict.takeOut
  try with_reducible refine wpAny_holding ?_
  refine wpAny_bind ((nkKind prog w).pyHash hu hkey ?_)
  refine wpAny_bind (wpAny_dictFind_heap (s := { s with toks := s.toks + 7 }) hu hkey ho hd he his hn ?_ ?_)
  · intro hno
    exact wpAny_pure (hnone (atKey_none_of_get hno))
  · intro j p hj
    refine wpAny_bind (wpAny_dictEntries (s := { s with toks := s.toks + 7 }) ho hd ?_)
    rw [entry_at he j, hj]
    refine wpAny_bind (wpAny_updateDictKeys (hz := hes) (s := { s with toks := s.toks + 7 }) ho hd (wpAny_pure (hsome _ p (atKey_of_get hn hj) rfl _ ⟨_, _, ep + 1, Heap.get?_update_self _ ho (Obj.isFreed_of_dict (Obj.data_mapDictKeys hd _)), hc.mapDictKeys _, Obj.data_mapDictKeys hd _, ?_, ?_, ?_⟩ (Heap.SameBut.update ..))))
    · rw [← erase_filter hn hj]
      rw [show (es.eraseIdxIfInBounds j).toList = es.toList.eraseIdx j from Array.toList_eraseIdxIfInBounds .., he]
      exact eraseIdx_map' _ _ _
    · intro x hx
      exact (nkKind prog w).keeps (his x (List.mem_filter.mp hx).1) ho hd (Heap.SameBut.update ..)
    · exact (List.filter_sublist.map _).nodup hn

theorem pop_heap {rest : List Value} {Q : Value → Shared → Prop} (hu : (nkKind prog w).room A.in1) (hs : (d == sysModules) = false) (hr : rest = [] ∨ rest = [.none]) (hkey : (nkKind prog w).is s.heap k a) (hm : s.heap.DictOfH (nkKind prog w) d xs) (hsz : xs.length ≤ 16777216)
    (hnone : atKey xs k = none → rest = [.none] ∧ ∀ tk, Q .none { s with toks := tk })
    (hsome : ∀ p, atKey xs k = some p → ∀ h' tk, h'.DictOfH (nkKind prog w) d (xs.filter fun x => decide (x.1 ≠ k)) → Heap.SameBut d s.heap h' → Q p.2 { s with heap := h', toks := tk }) :
    wpAny (model prog w) A (call (.builtin "dict.pop") (.ref d :: .ref a :: rest)) Q E s := by
  have hT := hm.typeIs
  refine wpAny_call_entry F.slot_dict_pop hT F.entry_dict_pop ?_ (by rcases hr with rfl | rfl; exact F.args_dict_pop_2 _ _; exact F.args_dict_pop_3 _ _ _)
  unfold Builtin.«dict.pop»
  refine wpAny_bind ?_
  unfold Builtin.Dict.keyAndDefault
  refine wpAny_bind (wpAny_notOrdered_dict hT ?_)
  have fin : ∀ (df : Option Value), (df = none ∧ rest = [] ∨ df = some .none ∧ rest = [.none]) → wpAny (model prog w) A.in1 (do
      let empty ← if (keyPart (.ref a)).isSome then pure false else do pure (← dictEntries d).isEmpty
      let old ← if empty then rule "dict.pop.empty"; pure none else Builtin.Dict.takeOut d (.ref a)
      if old.isNone then Builtin.Dict.missedRemoval d (.ref a)
      match old, df with
      | some e, _ => letGo [e.key] [e.val]; ret e.val
      | none, some x => rule "dict.pop.default"; ret x
      | none, none => rule "dict.pop.keyerror"; raiseNew (← newExc (.type "KeyError") [.ref a])) (fun r s' => ∃ v, r = .done (.ret v) ∧ Q v s') E s := by
    intro df hdf
    have hm' := hm
    obtain ⟨o, es, ep, ho, hc, hd, he, his, hn⟩ := hm
    show wpAny _ _ (dictEntries d >>= _) _ _ _
    refine wpAny_bind (wpAny_dictEntries ho hd (wpAny_bind (wpAny_pure ?_)))
    have hsz' := size_of_entries he
    dsimp only
    cases hemp : es.isEmpty with
    | true =>
      refine wpAny_bind (wpAny_rule (wpAny_bind (wpAny_pure ?_)))
      have : xs = [] := by
        rw [Array.isEmpty_iff] at hemp
        rw [hemp] at he
        exact List.map_eq_nil_iff.mp he.symm
      obtain ⟨hr', hq⟩ := hnone (by rw [this]; rfl)
      clear hsome hnone hm' ho hc hd he his hn this hsz hkey
      rcases hdf with ⟨rfl, e0⟩ | ⟨rfl, e0⟩
      · exact nomatch e0.symm.trans hr'
      · show wpAny _ _ (Builtin.Dict.missedRemoval d (.ref a) >>= _) _ _ _
        refine wpAny_bind (wpAny_missedRemoval_other hs ?_)
        exact wpAny_bind (wpAny_rule (wpAny_pure ⟨_, rfl, hq s.toks⟩))
    | false =>
      refine wpAny_bind (takeOut_heap hu hkey hm' hsz (fun hk => ?_) fun e p hk hv h' hm'' sb => ?_)
      · obtain ⟨hr', hq⟩ := hnone hk
        clear hsome hnone hm' ho hc hd he his hn hsz hkey
        rcases hdf with ⟨rfl, e0⟩ | ⟨rfl, e0⟩
        · exact nomatch e0.symm.trans hr'
        · show wpAny _ _ (Builtin.Dict.missedRemoval d (.ref a) >>= _) _ _ _
          refine wpAny_bind (wpAny_missedRemoval_other hs ?_)
          exact wpAny_bind (wpAny_rule (wpAny_pure ⟨_, rfl, hq _⟩))
      · refine wpAny_bind (m := letGo [e.key] [e.val]) (wpAny_letGo (wpAny_pure ⟨_, rfl, ?_⟩))
        rw [hv]
        exact hsome p hk h' _ hm'' sb
  rcases hr with rfl | rfl
  · show wpAny _ _ (pure (d, Value.ref a, none)) _ _ s
    exact wpAny_pure (fin none (.inl ⟨rfl, rfl⟩))
  · show wpAny _ _ (pure (d, Value.ref a, some Value.none)) _ _ s
    exact wpAny_pure (fin (some .none) (.inr ⟨rfl, rfl⟩))
end
end Lm
namespace Lm
noncomputable def MK.id : MK → String
  | .own _ => ""
  | .append => "list.append"
  | .pop => "dict.pop"
  | .get => "dict.get"
  | .join => "bytes.join"
noncomputable def MK.isOwn : MK → Bool
  | .own _ => true
  | _ => false
theorem type_bytes_join : typeOf (.builtin "bytes.join") = pure (.type "method_descriptor") := by show builtinType _ = _; rw [builtinType_eq_fast]; kernel_rfl
section
variable {X : Cx} {tb : Tab} {n : Nat} {sc : Scope} {ls : Ls} {σ σ1 σ2 σ3 : St} {c : Cfg} {A : Around} {env : Env} {s : Shared} {E : Value → Shared → Prop} {p q u : PV} {v : Value} {h : Heap}

theorem Rep.at_ (R : Rep X c σ h) {l : Loc} {o : AO} (hp : IsV X c h (.obj l) v) (hH : σ.H l = some o) : ∃ a d, v = .ref a ∧ c.ρ l = some (a, d) ∧ c.M d ∧ ORep X c h o a d :=
  hp.objE fun a d hρ => ⟨a, d, rfl, hρ, R.at hH hρ⟩
theorem IsVs.one {ps : List Value} (hv : IsVs X c h [p] ps) : ∃ w, ps = [w] ∧ IsV X c h p w := hv.consE fun w r f1 hv => hv.nilE ⟨w, rfl, f1⟩
theorem IsVs.two {ps : List Value} (hv : IsVs X c h [p, q] ps) : ∃ w u, ps = [w, u] ∧ IsV X c h p w ∧ IsV X c h q u := hv.consE fun w r f1 hv => hv.consE fun u r f2 hv => hv.nilE ⟨w, u, rfl, f1, f2⟩
theorem noDictH {d : Addr} {xs : List (NK × Addr × Value)} (h1 : h.DictOfH (nkKind X.prog X.w) d xs) : ∀ b, Value.ref d = .ref b → ∃ o, h.get? b = some o ∧ o.dict = none := fun b e => by
  cases e
  obtain ⟨o, es', ep, e1, e2, _⟩ := h1
  exact ⟨o, e1, e2.2.1⟩
theorem meth_lookup {M : Model} (R : Rep X c σ s.heap) {x : Str} {m : MK} (e : MkR tb σ p x m) (ho : m.isOwn = false) (hp : IsV X c s.heap p v) {pl : Sem Bool} {Q : Value × List Value → Shared → Prop} (k : Q (.builtin m.id, [v]) s) : wpAny M A (getMethod v x pl) Q E s := by
  induction e with
  | inst => exact bT ho
  | obj => exact bT ho
  | join =>
    revert k
    exact hp.bytesE fun t k => getMethod_builtin (typeIs_bytes _ _ _) FB.plainAttrs_bytes bytes_join_slot type_bytes_join (fun a e => nomatch e) k
  | append hH =>
    obtain ⟨a, d, rfl, hρ, hM, rfl, vs, m, h1, h2⟩ := R.at_ hp hH
    exact getMethod_builtin (isLst h1).typeIs F.plainAttrs_list F.slot_list_append F.type_list_append (fun a e => by cases e; exact ⟨_, h1, rfl⟩) k
  | popI hH =>
    obtain ⟨a, d, rfl, hρ, hM, rfl, kvs, h1, h2⟩ := R.at_ hp hH
    exact getMethod_builtin h1.typeIs F.plainAttrs_dict F.slot_dict_pop F.type_dict_pop h1.mapOf.noDict k
  | popN hH =>
    obtain ⟨a, d, rfl, hρ, hM, rfl, xs, h1, _⟩ := R.at_ hp hH
    exact getMethod_builtin h1.typeIs F.plainAttrs_dict F.slot_dict_pop F.type_dict_pop (noDictH h1) k
  | get hH =>
    obtain ⟨a, d, rfl, hρ, hM, rfl, xs, h1, _⟩ := R.at_ hp hH
    exact getMethod_builtin h1.typeIs F.plainAttrs_dict F.slot_dict_get F.type_dict_get (noDictH h1) k

theorem filter_wou (nk : NK) (xs : List (NK × Addr × Value)) : (xs.filter fun x => decide (x.1 ≠ nk)).map (fun x => (x.1, x.2.2)) = without (xs.map fun x => (x.1, x.2.2)) nk := by
  unfold without
  rw [List.filter_map]
  rfl
theorem dn_wou {c : Cfg} {h h' : Heap} {d : Addr} {es : List (NK × PV)} {xs : List (NK × Addr × Value)} {nk : NK} (P : Pres c h c h') (hd : h'.DictOfH (nkKind X.prog X.w) d (xs.filter fun x => decide (x.1 ≠ nk))) (h0 : ∀ x ∈ xs, IsV X c h (nkPV x.1) (.ref x.2.1))
    (h2 : es.map (·.1) = xs.map (·.1)) (h3 : IsVs X c h (es.map (·.2)) (xs.map (·.2.2))) : ORep X c h' (.dn (wou es nk)) d d := by
  have hm := ((dn_map h2 h3).mono P).wou (k := nk)
  rw [← filter_wou nk xs] at hm
  refine ⟨rfl, _, hd, fun x hx => (h0 x (List.mem_filter.mp hx).1).mono P, ?_, ?_⟩
  · have := hm.1; rw [List.map_map] at this; exact this
  · have := hm.2; rw [List.map_map] at this; exact this
theorem popN_ok (W : Wd X) (R : Rep X c σ s.heap) (hu : A.units + 10 < cLine) {l : Loc} {nk : NK} {es : List (NK × PV)} {rest : List Value} {w : Value} (hr : rest = [] ∨ rest = [.none]) (hH : σ.H l = some (.dn es)) (hsz : es.length ≤ 1000000) (hp : IsV X c s.heap (.obj l) v) (f1 : IsV X c s.heap (nkPV nk) w) {Q : Value → Shared → Prop}
    (k0 : vat es nk = none → rest = [.none] ∧ ∀ tk, Q .none { s with toks := tk }) (k1 : ∀ p, vat es nk = some p → Nx X c σ s (σ.set l (some (.dn (wou es nk)))) p Q) : wpAny (model X.prog X.w) A (call (.builtin "dict.pop") (v :: w :: rest)) Q E s := by
  obtain ⟨a, d, rfl, hρ, hM, rfl, xs, h1, h0, h2, h3⟩ := R.at_ hp hH
  obtain ⟨b, rfl, hk⟩ := f1.isNK
  refine pop_heap (by show A.units + 1 + 2 < cLine; lia) (R.off W hM) hr hk h1 (by have := (dn_map h2 h3).length; rw [List.length_map] at this; rw [this]; exact Nat.le_trans hsz (by decide)) (fun e0 => k0 ?_) fun p hp h' tk hd sb => ?_
  · rcases (dn_map h2 h3).vat (k := nk) with ⟨g1, g2⟩ | ⟨p, v', g1, g2, g3⟩
    · exact g1
    · rw [atKey_valueAt, e0] at g2; exact nO g2
  · rcases (dn_map h2 h3).vat (k := nk) with ⟨g1, g2⟩ | ⟨p', v', g1, g2, g3⟩
    · rw [atKey_valueAt, hp] at g2; exact nO' g2
    · rw [atKey_valueAt, hp] at g2
      rw [← Option.some.inj g2] at g3
      have P := pres_turn hM sb
      have O := dn_wou P hd h0 h2 h3
      exact k1 _ g1 _ c h' _ (R.turn hH hρ sb O) (Ext.turn R hH hρ sb O.live) (g3.mono P)
theorem get_ok (W : Wd X) (R : Rep X c σ s.heap) (hu : A.units + 10 < cLine) {l : Loc} {nk : NK} {es : List (NK × PV)} {w : Value} (hH : σ.H l = some (.dn es)) (hp : IsV X c s.heap (.obj l) v) (f1 : IsV X c s.heap (nkPV nk) w) {Q : Value → Shared → Prop}
    (k0 : vat es nk = none → Nx X c σ s σ .none Q) (k1 : ∀ p, vat es nk = some p → Nx X c σ s σ p Q) : wpAny (model X.prog X.w) A (call (.builtin "dict.get") [v, w]) Q E s := by
  obtain ⟨a, d, rfl, hρ, hM, rfl, xs, h1, h0, h2, h3⟩ := R.at_ hp hH
  obtain ⟨b, rfl, hk⟩ := f1.isNK
  refine call_meetsIn F.slot_dict_get h1.typeIs F.entry_dict_get (F.args_dict_get_2 _ _) (meetsH_dict_get (nkKind X.prog X.w) d b (R.off W hM)) ⟨by show A.units + 1 + 2 < cLine; lia, nk, xs, hk, h1, ?_⟩
  rcases (dn_map h2 h3).vat (k := nk) with ⟨g1, g2⟩ | ⟨p', v', g1, g2, g3⟩ <;> rw [atKey_valueAt] at g2 <;> rw [g2]
  · exact k0 g1 _ c s.heap _ R Ext.refl .none'
  · exact k1 _ g1 _ c s.heap _ R Ext.refl g3
theorem op_mcall (W : Wd X) (R : Rep X c σ s.heap) (hu : A.units + 10 < cLine) {m : MK} {ps : List PV} {vs : List Value} {r : PV × St} (e : McR σ m p ps r) (hp : IsV X c s.heap p v) (hv : IsVs X c s.heap ps vs) {Q : Value → Shared → Prop}
    (k : Nx X c σ s r.2 r.1 Q) : wpAny (model X.prog X.w) A (call (.builtin m.id) (v :: vs)) Q E s := by
  induction e with
  | append hH hsz =>
    obtain ⟨w, rfl, f1⟩ := hv.one
    obtain ⟨a, d, rfl, hρ, hM, rfl, vs, m, h1, h2⟩ := R.at_ hp hH
    have hlen : vs.size = _ := h2.length
    refine wpAny_list_append_plain ⟨m, h1⟩ (fun h' hl sb => ?_) (by rw [sizeLine_eq, hlen]; exact Nat.le_trans hsz (by decide))
    obtain ⟨m', hl⟩ := hl
    have P := pres_turn hM sb
    have O : ORep X c h' (.lst (_ ++ [_])) d d := ⟨rfl, _, m', hl, by rw [Array.toList_push]; exact (IsVs.mono P h2).append (.cons (f1.mono P) .nil)⟩
    exact k _ c h' s.toks (R.turn hH hρ sb O) (Ext.turn R hH hρ sb O.live) .none'
  | popI hH hsz e1 =>
    obtain ⟨w, rfl, f1⟩ := hv.one
    obtain ⟨a, d, rfl, hρ, hM, rfl, kvs, h1, h2⟩ := R.at_ hp hH
    obtain ⟨v', g2, g3⟩ := h2.at e1
    refine f1.intE fun t => call_meetsIn F.slot_dict_pop h1.mapOf.typeIs F.entry_dict_pop (F.args_dict_pop_2 _ _) (meets_dict_pop_there (intKind X.prog X.w) d (keyI _ _ _ t) [] (.inl rfl) rfl) ⟨kvs, v', h1, ?_, g2, fun h' hd sb => ?_⟩
    · rw [sizeLine_eq, h2.length]; exact Nat.le_trans hsz (by decide)
    · have P := pres_turn hM sb
      have O : ORep X c h' (.di (wou _ _)) d d := ⟨rfl, _, hd, (h2.mono P).wou⟩
      exact k _ c h' _ (R.turn hH hρ sb O) (Ext.turn R hH hρ sb O.live) (g3.mono P)
  | popN hH hsz e1 =>
    obtain ⟨w, rfl, f1⟩ := hv.one
    exact popN_ok W R hu (.inl rfl) hH hsz hp f1 (fun e0 => nO (e0.symm.trans e1)) fun p e0 => by cases Option.some.inj (e1.symm.trans e0); exact k
  | popD hH hsz e1 =>
    obtain ⟨w, u, rfl, f1, f2⟩ := hv.two
    exact f2.noneE (popN_ok W R hu (.inr rfl) hH hsz hp f1 (fun e0 => nO (e0.symm.trans e1)) fun p e0 => by cases Option.some.inj (e1.symm.trans e0); exact k)
  | pop0 hH hsz e1 =>
    obtain ⟨w, u, rfl, f1, f2⟩ := hv.two
    exact f2.noneE (popN_ok W R hu (.inr rfl) hH hsz hp f1 (fun e0 => ⟨rfl, fun tk => k _ c s.heap tk R Ext.refl .none'⟩) fun p e0 => nO (e1.symm.trans e0))
  | get hH e1 =>
    obtain ⟨w, rfl, f1⟩ := hv.one
    exact get_ok W R hu hH hp f1 (fun e0 => nO (e0.symm.trans e1)) fun p e0 => by cases Option.some.inj (e1.symm.trans e0); exact k
  | get0 hH e1 =>
    obtain ⟨w, rfl, f1⟩ := hv.one
    exact get_ok W R hu hH hp f1 (fun e0 => k) fun p e0 => nO (e1.symm.trans e0)
  | join hb hb' =>
    obtain ⟨w, rfl, f1⟩ := hv.one
    refine hp.bytesE fun t => f1.lstE fun a vs m h1 m1 f => ?_
    obtain ⟨vs⟩ := vs
    replace f : IsVs X c s.heap _ vs := f
    revert h1
    exact f.consE fun w1 _ x1 f => f.consE fun w2 _ x2 f => f.consE fun w3 _ x3 f => f.consE fun w4 _ x4 f => f.nilE (x1.bytesE fun t1 => x2.bytesE fun t2 => x3.bytesE fun t3 => x4.bytesE fun t4 h1 => bytes_join4 h1 hb hb' fun t tk => k _ c s.heap tk R Ext.refl .bytes')
end
end Lm
end
section
open PySem PySem.W PyProof.Rows
set_option Elab.async false
set_option autoImplicit false
set_option linter.unusedVariables false
set_option linter.unusedSectionVars false
set_option linter.unusedSimpArgs false
set_option tactic.hygienic false
namespace Lm
theorem slot_bytes_lt : Slot "bytes" (cmpInfo .Lt).2.1 "bytes.__lt__" :=
  .of (owner := "bytes") (n := "__lt__") (by rw [typeLookup_type, builtinLookup_eq_fast]; kernel_rfl) (by decide +kernel) (by decide +kernel) (by decide +kernel)
    (by first | exact .inl (by decide +kernel) | exact .inr (by decide +kernel)) (by rw [isSubtype_type]; kernel_rfl)
theorem entry_bytes_lt : entryFor table "bytes.__lt__" = some Builtin.«bytes.__lt__» := entryFor_of_tree (by kernel_rfl)
theorem args_bytes_lt_2 (a b : Value) : argsOk "bytes.__lt__" ⟨[a, b], []⟩ := by unfold argsOk; kernel_rfl
theorem gives_bytes_lt (b c : Array UInt8) (t u : Tok) : Gives (Builtin.«bytes.__lt__» ⟨[.bytes b t, .bytes c u], []⟩) (.val (.bool (bytesLt b.toList c.toList))) := by
  refine .of_wp fun M A E s Q hq => ?_
  show wpAny M A (isInstance (.bytes c u) (.type "bytes") >>= fun r => _) _ E s
  refine wpAny_bind (wpAny_isInstance (typeIs_bytes s c u) F.sub_bytes_bytes ?_)
  exact wpAny_pure ⟨_, rfl, hq⟩

noncomputable def LtAt (A : Around) (s : Shared) (y x : Value) (b : Bool) : Prop :=
  ∀ (prog : Program) (w : World) (E : Value → Shared → Prop) (Q : Value → Shared → Prop), Q (.bool b) s → wpAny (model prog w) A (richCompare .Lt y x) Q E s

theorem lt_of_op {A : Around} {s : Shared} {a b : Value} {r : Bool} (h : ∀ (prog : Program) (w : World) (E : Value → Shared → Prop) (Q : Value → Shared → Prop), Q (.bool r) s → wpAny (model prog w) A (compareOp .Lt a b) Q E s) : LtAt A s a b r := fun prog w E Q q => h prog w E Q q

section
variable {X : Cx} {c : Cfg} {A : Around} {s : Shared}
theorem tuple_lt {a b : Addr} {vs us : Array Value} {n m : Nat} {r : Bool} (h1 : s.heap.get? a = some (tupObj vs n)) (h2 : s.heap.get? b = some (tupObj us m)) (hu : A.units < cLine)
    (I : List (Value × Value) → Prop) (h0 : I (vs.toList.zip us.toList))
    (go : ∀ x y rest, I ((x, y) :: rest) → ∃ e, SeqAt.EqAt A.in1 s x y e ∧ (e = true → I rest) ∧ (e = false → LtAt A.in1 s x y r)) (fin : I [] → decide (vs.size < us.size) = r) : LtAt A s (.ref a) (.ref b) r := fun prog w E Q q => by
  have hT : s.TypeIs (.ref a) "tuple" := ⟨_, h1, rfl⟩
  have hT2 : s.TypeIs (.ref b) "tuple" := ⟨_, h2, rfl⟩
  refine wpAny_richCompare_same_room (op := .Lt) hT hT2 F.slot_tuple_lt ?_ hu
  refine wpAny_call_entry F.slot_tuple_lt hT F.entry_tuple_lt ?_ (F.args_tuple_lt_2 _ _)
  show wpAny _ _ (isInstance (.ref b) (.type "tuple") >>= _) _ _ _
  refine wpAny_bind (wpAny_isInstance hT2 isSubtype_tuple_tuple ?_)
  refine wpAny_ite_split (fun z => bF z) fun _ => ?_
  refine wpAny_bind (wpAny_tupleItemsOf h1 rfl (wpAny_bind (wpAny_tupleItemsOf h2 rfl (wpAny_bind ?_))))
  refine wpAny_forIn_list _ (fun rest b s' => b.1 = none ∧ s' = s ∧ I rest) _ ?_ ?_ _ _ ?h0
  case h0 => exact ⟨rfl, rfl, h0⟩
  · rintro ⟨x, y⟩ rest b' s' ⟨hb, rfl, hI⟩
    obtain ⟨e, he, hy, hn⟩ := go x y rest hI
    refine wpAny_bind (he prog w _ _ ?_)
    cases e with
    | true => exact wpAny_ite_split (fun z => bF z) fun _ => wpAny_pure ⟨rfl, rfl, hy rfl⟩
    | false =>
      refine wpAny_ite_split (fun _ => ?_) fun z => absurd rfl z
      refine wpAny_bind (wpAny_rule (wpAny_bind (hn rfl prog w _ _ ?_)))
      exact wpAny_bind (wpAny_pure (wpAny_pure (wpAny_pure ⟨_, rfl, (fun x => nomatch x), q⟩)))
  · rintro ⟨_, r2⟩ s' ⟨rfl, rfl, hI⟩
    refine wpAny_pure ⟨.bool (decide (vs.size < us.size)), rfl, (fun x => nomatch x), ?_⟩
    rw [fin hI]; exact q

/-- two rows of items, one by one: the first that differ tell r -/
inductive Lex (A : Around) (s : Shared) (r f : Bool) : List (Value × Value) → Prop
  | nil : f = r → Lex A s r f []
  | eq {v u : Value} {l : List (Value × Value)} : SeqAt.EqAt A s v u true → Lex A s r f l → Lex A s r f ((v, u) :: l)
  | lt {v u : Value} {l : List (Value × Value)} : SeqAt.EqAt A s v u false → LtAt A s v u r → Lex A s r f ((v, u) :: l)
theorem Lex.fin {r f : Bool} {l : List (Value × Value)} (h : Lex A s r f l) : l = [] → f = r := by
  induction h with
  | nil h => exact fun _ => h
  | _ => exact fun e => nomatch e
theorem Lex.go {r f : Bool} {l : List (Value × Value)} (h : Lex A s r f l) : ∀ {x y rest}, l = (x, y) :: rest → ∃ e, SeqAt.EqAt A s x y e ∧ (e = true → Lex A s r f rest) ∧ (e = false → LtAt A s x y r) := by
  induction h with
  | nil h => exact fun e => nomatch e
  | eq h1 h2 => exact fun e => by cases e; exact ⟨true, h1, fun _ => h2, fun e => bT e⟩
  | lt h1 h2 => exact fun e => by cases e; exact ⟨false, h1, fun e => bF e, fun _ => h2⟩
section
variable {q x : PV} {m l : List PV} {r : Bool}
@[elab_as_elim] theorem pvltI {C : PV → Bool → Prop} {i : Int} (e : pvlt (.int i) q = some r) (k : ∀ j, C (.int j) (decide (i < j))) : C q r := oM (show (asI q).map _ = some r from e) fun j hj => by rw [asI_eq hj]; exact k j
@[elab_as_elim] theorem pvltB {C : PV → Bool → Prop} {i : Array UInt8} (e : pvlt (.bytes i) q = some r) (k : ∀ j, C (.bytes j) (bytesLt i.toList j.toList)) : C q r := oM (show (asB q).map _ = some r from e) fun j hj => by rw [asB_eq hj]; exact k j
@[elab_as_elim] theorem pvltT {C : PV → Bool → Prop} (e : pvlt (.tup l) q = some r) (k : ∀ m, pvlts l m = some r → C (.tup m) r) : C q r := oB (show (asT q).bind _ = some r from e) fun j hj h => by rw [asT_eq hj]; exact k j h
@[elab_as_elim] theorem pvltsC {C : List PV → Bool → Prop} (e : pvlts (x :: l) m = some r) (k0 : C [] false) (k1 : ∀ y m, peq x y = some true → pvlts l m = some r → C (y :: m) r) (k2 : ∀ y m, peq x y = some false → pvlt x y = some r → C (y :: m) r) : C m r := by
  cases m with
  | nil => exact Option.some.inj e ▸ k0
  | cons y m =>
    refine oB (show (peq x y).bind _ = some r from e) fun b h1 e => ?_
    cases b with
    | true => exact k1 y m h1 e
    | false => exact k2 y m h1 e
end
noncomputable def B1 (X : Cx) (c : Cfg) (p : PV) : Prop := ∀ {q : PV} {b : Bool} {v u : Value} (A : Around) (s : Shared), pvlt p q = some b → IsV X c s.heap p v → IsV X c s.heap q u → A.units + 2 * dep p + 1 < cLine → LtAt A s v u b
noncomputable def B2 (X : Cx) (c : Cfg) (l : List PV) : Prop := ∀ {m : List PV} {r f : Bool} {vs us : List Value} (A : Around) (s : Shared), pvlts l m = some r → decide (l.length < m.length) = f → IsVs X c s.heap l vs → IsVs X c s.heap m us → A.units + 2 * deps l + 1 < cLine → Lex A s r f (vs.zip us)
theorem two_in {A : Around} {d : Nat} (h : A.units + 2 * (d + 1) + 1 < cLine) : A.units < cLine ∧ A.in1.units + 2 * d + 1 < cLine := by
  show _ ∧ A.units + 1 + 2 * d + 1 < cLine; lia
theorem two_max {A : Around} {d e : Nat} (h : A.units + 2 * max d e + 1 < cLine) : A.units + d < cLine ∧ A.units + 2 * d + 1 < cLine ∧ A.units + 2 * e + 1 < cLine := by
  have h1 := Nat.lt_of_le_of_lt (Nat.succ_le_succ (Nat.add_le_add_left (Nat.mul_le_mul_left 2 (Nat.le_max_left d e)) A.units)) h
  have h2 := Nat.lt_of_le_of_lt (Nat.succ_le_succ (Nat.add_le_add_left (Nat.mul_le_mul_left 2 (Nat.le_max_right d e)) A.units)) h
  exact ⟨Nat.lt_of_le_of_lt (Nat.le_trans (Nat.add_le_add_left (Nat.le_mul_of_pos_left d (by decide)) _) (Nat.le_succ _)) h1, h1, h2⟩
theorem B2.nil : B2 X c [] := fun {m r f vs us} A s e hf g1 g2 _ => g1.nilE (.nil (by
  rw [← hf, ← Option.some.inj (show some (!m.isEmpty) = some r from e)]
  cases m <;> rfl))
theorem B2.cons {p : PV} {l : List PV} (i : B1 X c p) (j : B2 X c l) : B2 X c (p :: l) := fun {m r f vs us} A s e hf g1 g2 hu => g1.consE fun v vs f1 f2 =>
  pvltsC (C := fun m r => decide (l.length + 1 < m.length) = f → IsVs X c s.heap m us → Lex A s r f ((v :: vs).zip us)) e
    (fun hf g => g.nilE (.nil (by rw [← hf]; rfl)))
    (fun y m e1 e2 hf g => g.consE fun u us h1 h2 => .eq (peq_at A s e1 f1 h1 (two_max hu).1) (j A s e2 (by rw [← hf, List.length_cons]; exact decide_eq_decide.mpr Nat.succ_lt_succ_iff.symm) f2 h2 (two_max hu).2.2))
    (fun y m e1 e2 hf g => g.consE fun u us h1 h2 => .lt (peq_at A s e1 f1 h1 (two_max hu).1) (i A s e2 f1 h1 (two_max hu).2.1)) hf g2
theorem pvlt_at {p : PV} : B1 X c p :=
  PV.rec (motive_1 := B1 X c) (motive_2 := B2 X c)
    (fun {_ _ _ _} A s e _ _ _ => nO e) (fun _ {_ _ _ _} A s e _ _ _ => nO e)
    (fun i {_ _ _ u} A s e f g _ => f.intE fun t => pvltI (C := fun q b => IsV X c s.heap q u → LtAt A s (.int i t) u b) e (fun j g => g.intE fun t' => lt_of_op fun prog w E Q k => lt_int k) g)
    (fun _ {_ _ _ _} A s e _ _ _ => nO e)
    (fun i {_ _ _ u} A s e f g _ => f.bytesE fun t => pvltB (C := fun q b => IsV X c s.heap q u → LtAt A s (.bytes i t) u b) e (fun j g => g.bytesE fun t' => lt_of_op fun prog w E Q k => compareOp_gives (op := .Lt) (typeIs_bytes s _ t) (typeIs_bytes s _ t') slot_bytes_lt entry_bytes_lt (args_bytes_lt_2 _ _) (gives_bytes_lt _ _ t t') (fun e => nomatch e) k) g)
    (fun l ih {q b v u} A s e f g hu => pvltT (C := fun q b => IsV X c s.heap q u → LtAt A s v u b) e (fun m e g => f.tupE fun a vs n h1 _ f => g.tupE fun a' us n' h2 _ g => by
      have hl := ih A.in1 s e (f := decide (vs.size < us.size)) (by rw [show vs.size = _ from f.length, show us.size = _ from g.length]) f g (two_in hu).2
      exact tuple_lt h1 h2 (two_in hu).1 (Lex A.in1 s _ _) hl (fun x y rest h => h.go rfl) (fun h => h.fin rfl)) g)
    (fun _ _ {_ _ _ _} A s e _ _ _ => nO e) (fun _ _ _ _ {_ _ _ _} A s e _ _ _ => nO e) (fun _ _ _ {_ _ _ _} A s e _ _ _ => nO e) (fun _ {_ _ _ _} A s e _ _ _ => nO e) B2.nil (fun _ _ i j => B2.cons i j) p
theorem pvlts_at {l : List PV} : B2 X c l := by
  induction l with
  | nil => exact B2.nil
  | cons p l ih => exact B2.cons pvlt_at ih
end
end Lm
end
section
open PySem PySem.W PyProof.Rows
set_option Elab.async false
set_option autoImplicit false
set_option linter.unusedVariables false
set_option linter.unusedSectionVars false
set_option linter.unusedSimpArgs false
set_option tactic.hygienic false
namespace Lm

theorem runT_wp {α : Type} {lt : Nat → Nat → Option Bool} {cmp : Nat → Nat → (Bool → Shared → Prop) → Shared → Prop} {s : Shared} {Q : α → Shared → Prop} (hc : ∀ i j b C, lt i j = some b → C b s → cmp i j C s) (t : KasT α) {a : α} (h : runT lt t = some a) (q : Q a s) : t.kasWp cmp Q s := by
  induction t with
  | ret => exact Option.some.inj h ▸ q
  | ask i j k ih => exact oB (show (lt i j).bind _ = some a from h) fun b hb h => hc i j b _ hb (ih b h)

section
variable {X : Cx} {c : Cfg} {A : Around} {s : Shared} {E : Value → Shared → Prop}

theorem asTups {h : Heap} (hk : ∀ b o, h.get? b = some o → s.heap.get? b = some o) {T : Value} {ps : List PV} {vs : List Value} (hp : ∀ p ∈ ps, ∃ x l, p = .tup (x :: l) ∧ ∀ w, IsV X c h x w → Looks (model X.prog X.w) s.heap (typeOf w) T) (f : IsVs X c h ps vs) :
    ∃ fs, KatTups s.heap vs fs ∧ fs.length = vs.length ∧ ∀ v ∈ fs, Looks (model X.prog X.w) s.heap (typeOf v) T := by
  induction ps generalizing vs with
  | nil => exact f.nilE ⟨[], KatTups.nil, rfl, fun _ h => nomatch h⟩
  | cons p ps ih =>
    refine f.consE fun v r f1 f2 => ?_
    obtain ⟨⟨x, l, hp', hx⟩, hp⟩ := List.forall_mem_cons.mp hp
    obtain ⟨fs, k1, k2, k3⟩ := ih hp f2
    rw [hp'] at f1
    refine f1.tupE fun a us n h1 _ f1 => ?_
    have hw : ∃ w, us[0]? = some w ∧ IsV X c h x w := by rw [← Array.getElem?_toList]; exact f1.get (k := 0) rfl
    obtain ⟨w, e, g1⟩ := hw
    exact ⟨w :: fs, KatTups.cons (hk _ _ h1) rfl rfl e k1, congrArg Nat.succ k2, List.forall_mem_cons.mpr ⟨hx _ g1, k3⟩⟩

theorem Lex.kat {bb r fin : Bool} {zs : List (Value × Value)} {Q : Bool → Shared → Prop} (h : Lex A s r fin zs) (q : Q r s) {i : Nat} (hi : (bb && i == 0) = false) : KatLex X.prog X.w A bb fin Q zs i s := by
  induction h generalizing i with
  | nil h => exact kat_nil (h ▸ q)
  | eq h1 _ ih => exact kat_cons (h1 X.prog X.w _ _ (kat_yes (ih (Bool.and_false _))))
  | lt h1 h2 => exact kat_cons (h1 X.prog X.w _ _ (kat_no (by rw [hi]; exact kat_one _ _ (h2 X.prog X.w _ _ q))))
theorem two_100 {d : Nat} (hu : A.units + 300 < cLine) (hd : d ≤ 100) : A.units + 2 * d + 1 < cLine := by lia
theorem lex_at (hu : A.units + 300 < cLine) {bb : Bool} {Q : Bool → Shared → Prop} {r fin : Bool} (q : Q r s) {l m : List PV} {vs us : List Value} (hi : bb = true → ∃ x l', l = .int x :: l') (hd : deps l ≤ 100) (e : pvlts l m = some r) (hf : decide (l.length < m.length) = fin) (f : IsVs X c s.heap l vs) (g : IsVs X c s.heap m us) :
    KatLex X.prog X.w A bb fin Q (vs.zip us) 0 s := by
  have hu' := two_100 hu hd
  cases bb with
  | false => exact (pvlts_at A s e hf f g hu').kat q rfl
  | true =>
    obtain ⟨x, l', rfl⟩ := hi rfl
    clear hi hd hu
    refine f.consE fun v vs f1 f2 => pvltsC (C := fun m r => IsVs X c s.heap m us → decide (l'.length + 1 < m.length) = fin → Q r s → KatLex X.prog X.w A true fin Q ((v :: vs).zip us) 0 s) e
      (fun g hf q => g.nilE (kat_nil (by rw [← hf]; exact q)))
      (fun y m e1 e2 g hf q => g.consE fun u us h1 h2 => kat_cons (peq_at A s e1 f1 h1 (two_max hu').1 X.prog X.w _ _ (kat_yes ((pvlts_at A s e2 (by rw [← hf, List.length_cons]; exact decide_eq_decide.mpr Nat.succ_lt_succ_iff.symm) f2 h2 (two_max hu').2.2).kat q rfl))))
      (fun y m e1 e2 g hf q => g.consE fun u us h1 h2 => kat_cons (peq_at A s e1 f1 h1 (two_max hu').1 X.prog X.w _ _ (kat_no ?_))) g hf q
    revert h1 q
    exact pvltI e2 fun j q h1 => f1.intE fun t => h1.intE fun t' => kat_lt_int q

theorem IsVs.getD {h : Heap} {ps : List PV} {vs : List Value} (f : IsVs X c h ps vs) (i : Nat) : IsV X c h (ps.getD i .none) (vs.getD i .none) := by
  induction ps generalizing vs i with
  | nil => exact f.nilE .none'
  | cons p ps ih => exact f.consE fun v r f1 f2 => by cases i with | zero => exact f1 | succ i => exact ih f2 i
theorem getD_mem (ps : List PV) (i : Nat) : ps.getD i .none = .none ∨ ps.getD i .none ∈ ps := by
  induction ps generalizing i with
  | nil => exact .inl rfl
  | cons p ps ih => cases i with
    | zero => exact .inr List.mem_cons_self
    | succ i => exact (ih i).imp id (List.mem_cons_of_mem _)
theorem ask_tups (hu : A.units + 300 < cLine) {bb : Bool} {ps : List PV} {vs : List Value} (hp : ∀ p ∈ ps, ∃ x l, p = .tup (x :: l) ∧ deps (x :: l) ≤ 100 ∧ (bb = true → ∃ z, x = .int z)) (f : IsVs X c s.heap ps vs) (i j : Nat) (r : Bool) (C : Bool → Shared → Prop)
    (e : pvlt (ps.getD i .none) (ps.getD j .none) = some r) (q : C r s) : kas_ask X.prog X.w A (tuples' bb) vs i j C s := by
  have f1 := f.getD i
  have f2 := f.getD j
  unfold kas_ask
  rcases getD_mem ps i with h | h
  · rw [h] at e; exact nO e
  · obtain ⟨x, l, e1, e2, e3⟩ := hp _ h
    rw [e1] at e f1
    refine f1.tupE fun a us n h1 _ g1 => pvltT (C := fun p r => IsV X c s.heap p (vs.getD j .none) → C r s → wpAny (model X.prog X.w) A (keyLt' (tuples' bb) (.ref a) (vs.getD j .none)) C _ s) e (fun m e f2 q => f2.tupE fun a' us' n' h2 _ g2 => ?_) f2 q
    exact kat_lt h1 rfl h2 rfl (lex_at hu q (fun hb => (e3 hb).elim fun z hz => ⟨z, l, by rw [hz]⟩) e2 e (by rw [show us.size = _ from g1.length, show us'.size = _ from g2.length]) g1 g2)
theorem ask_ints {ps : List PV} {vs : List Value} (hp : ∀ p ∈ ps, ∃ x, p = .int x) (f : IsVs X c s.heap ps vs) (i j : Nat) (r : Bool) (C : Bool → Shared → Prop)
    (e : pvlt (ps.getD i .none) (ps.getD j .none) = some r) (q : C r s) : kas_ask X.prog X.w A oneType' vs i j C s := by
  have f1 := f.getD i
  have f2 := f.getD j
  unfold kas_ask
  rcases getD_mem ps i with h | h
  · rw [h] at e; exact nO e
  · obtain ⟨x, e1⟩ := hp _ h
    rw [e1] at e f1
    exact f1.intE fun t => pvltI (C := fun p r => IsV X c s.heap p (vs.getD j .none) → C r s → wpAny (model X.prog X.w) A (keyLt' oneType' (.int x t) (vs.getD j .none)) C _ s) e (fun m f2 q => f2.intE fun t' => kat_lt_int q) f2 q
end
end Lm
end
section
open PySem PySem.W PyProof.Rows
set_option Elab.async false
set_option autoImplicit false
set_option linter.unusedVariables false
set_option linter.unusedSectionVars false
set_option linter.unusedSimpArgs false
set_option tactic.hygienic false
namespace Lm
section
variable {X : Cx} {c : Cfg} {A : Around} {s : Shared} {E : Value → Shared → Prop}

/-- the shell of list.sort: what the compares tell decides the order -/
theorem sort_shell {a : Addr} {vs : List Value} {n : Nat} {P : PySem.Fin → Shared → Prop} (ho : s.heap.get? a = some (seqObj "list" vs.toArray n)) (h64 : vs.length < 64) (out : List Value) (hout : out.length ≤ 64)
    (hlt : vs.length < 2 → out = vs)
    (h : 2 ≤ vs.length → ∀ h', (∀ b o, b ≠ a → s.heap.get? b = some o → h'.get? b = some o) →
      wpAny (model X.prog X.w) A (keyKind' vs.toArray) (fun κ s' => (kas_sort vs.length).kasWp (kas_ask X.prog X.w A κ vs) (fun p s'' => s'' = s' ∧ s' = { s with heap := h' } ∧ (p.toList.map fun i => vs.getD i Value.none) = out) s') (fun _ _ => False) { s with heap := h' })
    (k : ∀ h' m, (∀ b o, b ≠ a → s.heap.get? b = some o → h'.get? b = some o) → h'.get? a = some (seqObj "list" out.toArray m) → P (.done (.ret .none)) { s with heap := h' }) :
    wpAny (model X.prog X.w) A (Builtin.«list.sort» ⟨[.ref a], []⟩) P E s := by
  have hz : vs.length ≤ 16777216 := Nat.le_trans (Nat.le_of_lt h64) (by decide)
  obtain ⟨e1, ho1⟩ : ∃ e1, (s.heap.update a (Obj.mapSeq fun _ => (#[] : Array Value))).get? a = some (seqObj "list" #[] e1) := ⟨_, get?_update_seq ho fun _ => #[]⟩
  have s1 := Heap.SameBut.update s.heap a (Obj.mapSeq fun _ => (#[] : Array Value))
  let h3 := ((s.heap.update a (Obj.mapSeq fun _ => (#[] : Array Value))).push (seqObj "tuple" vs.toArray 0)).push (seqObj "list" #[] 0)
  have up : ∀ b o, b ≠ a → s.heap.get? b = some o → h3.get? b = some o := fun b o hb e => Heap.get?_push_of_some _ (Heap.get?_push_of_some _ ((s1.2 b hb).trans e))
  have ho3 : h3.get? a = some (seqObj "list" #[] e1) := Heap.get?_push_of_some _ (Heap.get?_push_of_some _ ho1)
  rw [list_sort_plain]
  refine wpAny_bind (listItems_at ho rfl ?_)
  refine wpAny_bind (listUpdate_at ho rfl ?_ (by rw [List.size_toArray, sizeLine_eq]; exact hz) (Nat.zero_le _))
  refine wpAny_bind (seqEpoch_at ho1 rfl ?_)
  refine wpAny_bind (wpAny_newTuple ?_ (by show vs.length ≤ _; rw [sizeLine_eq]; exact hz))
  refine wpAny_bind (wpAny_newList ?_ (Nat.zero_le _))
  refine wpAny_holding ?_
  show wpAny (model X.prog X.w) A _ P E { s with heap := h3 }
  dsimp only
  have s2 := Heap.SameBut.update h3 a (Obj.mapSeq fun _ => out.toArray)
  obtain ⟨c2, hc2⟩ : ∃ c2, (h3.update a (Obj.mapSeq fun _ => out.toArray)).get? a = some (seqObj "list" out.toArray c2) := ⟨_, get?_update_seq ho3 fun _ => out.toArray⟩
  have kk := k (h3.update a (Obj.mapSeq fun _ => out.toArray)) c2 (fun b o hb e => (s2.2 b hb).trans (up b o hb e)) hc2
  by_cases h2 : vs.toArray.size < 2
  · rw [if_pos h2, if_pos h2]
    have e0 : out = vs := hlt h2
    refine wpAny_bind (wpAny_pure ?_)
    rw [StateT.run_pure]
    refine wpAny_bind (wpAny_pure ?_)
    dsimp only
    have hm : (arrOf (SortSt.mk' general' (vs.toArray.zip vs.toArray) #[] 7 none)).map (·.2) = out.toArray := by
      rw [e0]
      apply Array.toList_inj.mp
      show ((vs.toArray.zip vs.toArray).map (·.2)).toList = vs
      rw [Array.toList_map, Array.toList_zip]
      exact List.map_snd_zip (Nat.le_refl _)
    refine wpAny_bind (seqEpoch_at ho3 rfl ?_)
    rw [hm]
    refine wpAny_bind (listUpdate_at ho3 rfl ?_ (Nat.zero_le _) (by rw [List.size_toArray, sizeLine_eq]; exact Nat.le_trans hout (by decide)))
    exact bm_if_false (bne_self_eq_false _) (wpAny_pure kk)
  · rw [if_neg h2, if_neg h2]
    have h2' : 2 ≤ vs.length := Nat.le_of_not_lt h2
    refine wpAny_bind (wpAny_mono (h h2' h3 up) (fun κ s0 hk => ?_) fun _ _ x => x.elim)
    refine wpAny_bind (wpAny_mono (kat_run (Q := fun st' s' => ∃ p : Array Nat, p.size = vs.length ∧ arrOf st' = p.map (kas_item (vs.toArray.zip vs.toArray)) ∧ failedOf st' = none ∧ (s' = s0 ∧ s0 = { s with heap := h3 } ∧ (p.toList.map fun i => vs.getD i Value.none) = out))
      rfl h2' h64 (fun p' st' s' a1 a2 a3 a4 => ⟨p', a1, a2, a3, a4⟩) hk) ?_ fun _ _ e => e)
    rintro ⟨⟨⟩, st'⟩ s' ⟨p, hp, har, hf, rfl, rfl, he⟩
    dsimp only
    have hm := kat_snds rfl har
    rw [he] at hm
    rw [hm]
    refine wpAny_bind (seqEpoch_at ho3 rfl ?_)
    refine wpAny_bind (listUpdate_at ho3 rfl ?_ (Nat.zero_le _) (by rw [List.size_toArray, sizeLine_eq]; exact Nat.le_trans hout (by decide)))
    rw [hf]
    exact bm_if_false (bne_self_eq_false _) (wpAny_pure kk)

theorem isVs_perm {h : Heap} {ps : List PV} {vs : List Value} (f : IsVs X c h ps vs) (is : List Nat) : IsVs X c h (is.map fun i => ps.getD i .none) (is.map fun i => vs.getD i .none) := by
  induction is with
  | nil => exact .nil
  | cons i is ih => exact .cons (f.getD i) ih

theorem look_int {M : Model} {h : Heap} {z : Int} {t : Tok} : Looks M h (typeOf (.int z t)) (.type "int") := fun A Q E s _ q => wpAny_typeOf (typeIs_int s z t) q
theorem look_tup {M : Model} {h : Heap} {a : Addr} {us : Array Value} {n : Nat} (e : h.get? a = some (tupObj us n)) : Looks M h (typeOf (.ref a)) (.type "tuple") := fun A Q E s k q => wpAny_typeOf ⟨_, k _ _ e, rfl⟩ q

theorem some_of {α : Type} {x : Option α} (h : x.isSome = true) : ∃ a, x = some a := Option.isSome_iff_exists.mp h
theorem isIntP_eq {p : PV} (h : isIntP p = true) : ∃ x, p = .int x := (some_of h).imp fun _ => asI_eq
theorem headT_eq {p : PV} {y : PV × List PV} (h : headT p = some y) : p = .tup (y.1 :: y.2) ∧ deps (y.1 :: y.2) ≤ 100 :=
  oB h fun z h1 h => oB h1 fun l h2 h3 => oI h fun hd h => by rw [← Option.some.inj h, asT_eq h2, headO_eq h3]; exact ⟨rfl, Option.some.inj h ▸ hd⟩
theorem headT_any {p : PV} {f : PV × List PV → Bool} (h : (headT p).any f = true) : ∃ x l, p = .tup (x :: l) ∧ deps (x :: l) ≤ 100 ∧ f (x, l) = true := by
  cases e : headT p with
  | none => rw [e] at h; exact bF h
  | some y => rw [e] at h; exact ⟨y.1, y.2, (headT_eq e).1, (headT_eq e).2, h⟩
theorem isTupI_eq {p : PV} (h : isTupI p = true) : ∃ x l, p = .tup (x :: l) ∧ deps (x :: l) ≤ 100 ∧ (true = true → ∃ z, x = .int z) := by
  obtain ⟨x, l, h1, h2, h3⟩ := headT_any h
  exact ⟨x, l, h1, h2, fun _ => isIntP_eq h3⟩
theorem isTupT_eq {p : PV} (h : isTupT p = true) : ∃ x l, p = .tup (x :: l) ∧ deps (x :: l) ≤ 100 ∧ ∃ z, x = .tup z := by
  obtain ⟨x, l, h1, h2, h3⟩ := headT_any h
  exact ⟨x, l, h1, h2, (some_of h3).imp fun _ => asT_eq⟩
theorem looks_ints {ps : List PV} {vs : List Value} (f : IsVs X c s.heap ps vs) (hp : ∀ p ∈ ps, ∃ x, p = .int x) {M : Model} : ∀ v ∈ vs, Looks M s.heap (typeOf v) (.type "int") := by
  induction ps generalizing vs with
  | nil => exact f.nilE fun v hv => nomatch hv
  | cons p ps ih =>
    obtain ⟨⟨x, hx⟩, hp⟩ := List.forall_mem_cons.mp hp
    rw [hx] at f
    exact f.consE fun v r f1 f2 => List.forall_mem_cons.mpr ⟨f1.intE fun t => look_int, ih f2 hp⟩
/-- the kind of the keys, and what the compares tell -/
theorem kind_at (hu : A.units + 300 < cLine) {h₀ : Heap} {ps : List PV} {vs : List Value} (hk : sortKind ps = true) (f : IsVs X c h₀ ps vs) (G : Gr h₀ s.heap) (h2 : 2 ≤ vs.length) {p : Array Nat} (hp : runT (fun i j => pvlt (ps.getD i .none) (ps.getD j .none)) (kas_sort vs.length) = some p) {Q : Shared → Array Nat → Shared → Prop} (q : Q s p s) :
    wpAny (model X.prog X.w) A (keyKind' vs.toArray) (fun κ s' => (kas_sort vs.length).kasWp (kas_ask X.prog X.w A κ vs) (Q s') s') (fun _ _ => False) s := by
  have f3 := f.gr G
  unfold sortKind at hk
  rw [Bool.or_eq_true, Bool.or_eq_true] at hk
  rcases hk with (hk | hk) | hk
  · have hp' : ∀ p ∈ ps, ∃ x, p = .int x := fun p hp => isIntP_eq (List.all_eq_true.mp hk p hp)
    exact kas_kind (T := .type "int") h2 (looks_ints f3 hp') (by decide) (by decide) (runT_wp (fun i j b C e q => ask_ints hp' f3 i j b C e q) _ hp q)
  · have hp' := fun p hp => isTupI_eq (List.all_eq_true.mp hk p hp)
    obtain ⟨fs, k1, k2, k3⟩ := asTups (X := X) (c := c) (s := s) (T := .type "int") G (fun p hp => by
      obtain ⟨x, l, e1, e2, e3⟩ := hp' p hp
      refine ⟨x, l, e1, fun w hw => ?_⟩
      obtain ⟨z, hz⟩ := e3 rfl
      rw [hz] at hw
      exact hw.intE fun t => look_int) f
    exact kat_kind k1 (by rw [k2]; exact Nat.lt_of_lt_of_le (by decide) h2) k3 (by decide) (runT_wp (fun i j b C e q => ask_tups hu hp' f3 i j b C e q) _ hp q)
  · have hp' := fun p hp => isTupT_eq (List.all_eq_true.mp hk p hp)
    obtain ⟨fs, k1, k2, k3⟩ := asTups (X := X) (c := c) (s := s) (T := .type "tuple") G (fun p hp => by
      obtain ⟨x, l, e1, e2, z, hz⟩ := hp' p hp
      refine ⟨x, l, e1, fun w hw => ?_⟩
      rw [hz] at hw
      exact hw.tupE fun a us n g1 _ _ => look_tup (G _ _ g1)) f
    exact kat_kind k1 (by rw [k2]; exact Nat.lt_of_lt_of_le (by decide) h2) k3 (by decide) (runT_wp (fun i j b C e q => ask_tups hu (fun p hp => (hp' p hp).imp fun x h => h.imp fun l h => ⟨h.1, h.2.1, fun h => bF h⟩) f3 i j b C e q) _ hp q)
theorem sortL_cases {ps qs : List PV} (h : sortL ps = some qs) : (ps.length < 2 ∧ qs = ps) ∨ (2 ≤ ps.length ∧ ps.length < 64 ∧ ∃ p : Array Nat, runT (fun i j => pvlt (ps.getD i .none) (ps.getD j .none)) (kas_sort ps.length) = some p ∧ p.size ≤ 64 ∧ qs = p.toList.map fun i => ps.getD i .none) := by
  unfold sortL at h
  by_cases h2 : ps.length < 2
  · rw [if_pos h2] at h; exact .inl ⟨h2, (Option.some.inj h).symm⟩
  · rw [if_neg h2] at h
    by_cases h64 : 64 ≤ ps.length
    · rw [if_pos h64] at h; exact nO h
    · rw [if_neg h64] at h
      exact oB h fun p hp h => oI h fun hz h => .inr ⟨Nat.le_of_not_lt h2, Nat.lt_of_not_le h64, p, hp, hz, (Option.some.inj h).symm⟩

theorem sorted_of (hu : A.units + 400 < cLine) {v : Value} {ps qs : List PV} {Q : Value → Shared → Prop} (hF : Fresh c s.heap) (hk : sortKind ps = true) (hs : sortL ps = some qs)
    (hc : ∀ Q' : List Value → Shared → Prop, (∀ vs h' tk, Gr s.heap h' → IsVs X c h' ps vs → Q' vs { s with heap := h', toks := tk }) → wpAny (model X.prog X.w) A.in1 (collect v) Q' E s) (k : Pu X c s (.lst qs) Q) :
    wpAny (model X.prog X.w) A (call (.builtin "sorted") [v]) Q E s := by
  refine Calls.call_function_entry kind_sorted plain_sorted entry_sorted (args_sorted1 _) ?_
  unfold Builtin.«sorted»
  refine wpAny_bind (m := checkCount "sorted" 1 1 _) (wpAny_pure ?_)
  refine wpAny_bind (hc _ fun vs h1 tk G1 f1 => ?_)
  clear hc
  have hlen := f1.length
  have hs := sortL_cases hs
  have h64 : vs.length < 64 := by
    rw [hlen]
    rcases hs with ⟨h, _⟩ | ⟨_, h, _⟩
    · exact Nat.lt_of_lt_of_le h (by decide)
    · exact h
  refine wpAny_bind (wpAny_newList ?_ (by rw [sizeLine_eq]; exact Nat.le_trans (Nat.le_of_lt h64) (by decide)))
  have G2 : Gr h1 (h1.push (seqObj "list" vs.toArray 0)) := Gr.push _
  have hoL : (h1.push (seqObj "list" vs.toArray 0)).get? h1.objs.size = some (seqObj "list" vs.toArray 0) := Heap.get?_push_size _ rfl
  have hne : ∀ b o, h1.get? b = some o → b ≠ h1.objs.size := fun b o e z => by rw [z, get?_size] at e; exact nO e
  have fin : ∀ (out : List Value), IsVs X c h1 qs out → ∀ h' m, (∀ b o, b ≠ h1.objs.size → (h1.push (seqObj "list" vs.toArray 0)).get? b = some o → h'.get? b = some o) → h'.get? h1.objs.size = some (seqObj "list" out.toArray m) → Q (.ref h1.objs.size) { s with heap := h', toks := tk } := by
    intro out fo h' m hk' ho'
    have G3 : Gr h1 h' := fun b o e => hk' b o (hne b o e) (G2 b o e)
    exact k _ h' tk (G1.trans G3) (.mk _ out.toArray m ho' ((hF.gr G1) _ (get?_size _)) (fo.gr G3))
  refine wpAny_bind (wpAny_holding (wpAny_call_entry slot_list_sort ⟨_, hoL, rfl⟩ entry_list_sort ?_ (args_list_sort _)))
  clear k hF G1
  rcases hs with ⟨hl2, rfl⟩ | ⟨hl2, _, p, hp, hp64, rfl⟩
  · exact sort_shell (s := { s with heap := h1.push (seqObj "list" vs.toArray 0), toks := tk }) hoL h64 vs (Nat.le_of_lt h64) (fun _ => rfl) (fun h => absurd (hlen ▸ h) (Nat.not_le.mpr hl2)) fun h' m hk' ho' => ⟨_, rfl, wpAny_pure ⟨_, rfl, fin vs f1 h' m hk' ho'⟩⟩
  · exact sort_shell (s := { s with heap := h1.push (seqObj "list" vs.toArray 0), toks := tk }) hoL h64 (p.toList.map fun i => vs.getD i .none) (by rw [List.length_map]; exact hp64) (fun h => absurd (hlen ▸ h) (Nat.not_lt.mpr hl2))
      (fun h2 h' hk' => kind_at (s := { s with heap := h', toks := tk }) (by show A.units + 1 + 1 + 300 < cLine; exact Nat.lt_of_le_of_lt (Nat.add_le_add_left (by decide : 1 + 1 + 300 ≤ 400) _) hu) hk f1 (fun b o e => hk' b o (hne b o e) (G2 b o e)) h2 (by rw [hlen]; exact hp) ⟨rfl, rfl, rfl⟩)
      fun h' m hk' ho' => ⟨_, rfl, wpAny_pure ⟨_, rfl, fin _ (isVs_perm f1 p.toList) h' m hk' ho'⟩⟩
end
end Lm
end
section
open PySem PySem.W PyProof.Rows
set_option Elab.async false
set_option autoImplicit false
set_option linter.unusedVariables false
set_option linter.unusedSectionVars false
set_option linter.unusedSimpArgs false
set_option tactic.hygienic false
namespace Lm

/-- a dict by its keys as they lie -/
noncomputable def RawD (h : Heap) (d : Addr) (ks : List Value) (ep : Nat) : Prop := ∃ o es, h.get? d = some o ∧ o.ExactDict ∧ o.data = .dict es ep ∧ es.toList.map (·.key) = ks
theorem RawD.at' {h h' : Heap} {d : Addr} {ks : List Value} {ep : Nat} (x : RawD h d ks ep) (e : ∀ o, h.get? d = some o → h'.get? d = some o) : RawD h' d ks ep := let ⟨o, es, ho, r⟩ := x; ⟨o, es, e _ ho, r⟩
theorem RawD.lt {h : Heap} {d : Addr} {ks : List Value} {ep : Nat} (x : RawD h d ks ep) : d < h.objs.size := let ⟨o, es, ho, r⟩ := x; Heap.lt_size ho
theorem RawD.typeIs {s : Shared} {d : Addr} {ks : List Value} {ep : Nat} (x : RawD s.heap d ks ep) : s.TypeIs (.ref d) "dict" := let ⟨o, es, ho, hc, r⟩ := x; ⟨o, ho, hc.1⟩

section
variable {prog : Program} {w : World} {A : Around} {E : Value → Shared → Prop} {s : Shared}

theorem raw_size {es : Array DictEntry} {ks : List Value} (h : es.toList.map (·.key) = ks) : es.size = ks.length := by rw [← h, List.length_map]; rfl
theorem raw_iter {d : Addr} {ks : List Value} {ep : Nat} {Q : Value → Shared → Prop} (hd : (d == sysModules) = false) (hm : RawD s.heap d ks ep)
    (hQ : Q (.ref s.heap.objs.size) { s with heap := s.heap.push { cls := .type "dict_keyiterator", data := .fields #[.ref d, .int 0 0, .int ks.length 0, .int ep 0] } }) : wpAny (model prog w) A (pyIter (.ref d)) Q E s := by
  have hT := hm.typeIs
  obtain ⟨o, es, ho, hc, hdat, hk⟩ := hm
  refine wpAny_pyIter_slot hT F.slot_dict_iter (wpAny_call_entry F.slot_dict_iter hT F.entry_dict_iter ?_ (F.args_dict_iter_1 _))
  unfold Builtin.«dict.__iter__»
  refine wpAny_bind ?_
  unfold Builtin.Dict.dictSlotNone
  refine wpAny_bind (wpAny_notOrdered_dict hT ?_)
  show wpAny _ _ (pure (Value.ref d)) _ _ s
  refine wpAny_pure ?_
  show wpAny _ _ (Builtin.Dict.showsAll d >>= _) _ _ s
  unfold Builtin.Dict.showsAll
  rw [if_neg (by rw [hd]; exact Bool.false_ne_true)]
  refine wpAny_bind (wpAny_pure ?_)
  refine wpAny_bind (wpAny_dictEntries ho hdat ?_)
  refine wpAny_bind (wpAny_dictEpoch ho hdat ?_)
  have hsz := raw_size hk
  refine wpAny_bind (wpAny_newObj_type (wpAny_pure ⟨_, rfl, "dict_keyiterator", _, ⟨_, Heap.get?_push_size _ rfl, rfl⟩, F.slot_dict_keyiterator_next.lookup, ?_⟩))
  simpa [rawInt, hsz] using hQ

theorem raw_item {it d : Addr} {i ep : Nat} {ks : List Value} {key : Value} {Q : Option Value → Shared → Prop} (hit : s.heap.IsKeyIter it d i ks.length ep) (hm : RawD s.heap d ks ep) (hx : ks[i]? = some key)
    (hQ : ∀ h', h'.IsKeyIter it d (i + 1) ks.length ep → Heap.SameBut it s.heap h' → Q (some key) { s with heap := h' }) : wpAny (model prog w) A (pyNext (.ref it)) Q E s := by
  obtain ⟨o, ho, hc, hd⟩ := id hit
  obtain ⟨od, es, hod, hcd, hdd, hk⟩ := hm
  unfold pyNext
  refine wpAny_bind (wpAny_attempt (wpAny_callSpecial?_slot (name := Str.ofString "__next__") hit.typeIs F.slot_dict_keyiterator_next
    (wpAny_call_entry F.slot_dict_keyiterator_next hit.typeIs F.entry_dict_keyiterator_next ?_ (F.args_dict_keyiterator_next_1 _))))
  refine wpAny_bind (wpAny_pure ?_)
  refine wpAny_bind ?_
  refine wpAny_bind ?_
  first | refine wpAny_bind (wpAny_typeNameOfWhole_keyiter hit.typeIs (wpAny_pure ?_)) | refine wpAny_bind (wpAny_typeNameOf_keyiter hit.typeIs (wpAny_pure ?_))
  refine wpAny_bind (wpAny_fieldsOf ho hd ?_)
  have hown : Builtin.Dict_items.ownsTuple "dict_keyiterator" = false := by decide
  rw [hown]
  show wpAny _ _ (if (Value.ref d == Value.none) = true then _ else _) _ _ s
  rw [if_neg (show ¬ ((Value.ref d == Value.none) = true) from Bool.false_ne_true)]
  refine wpAny_bind (wpAny_pure ?_)
  refine wpAny_bind (wpAny_dictEntries hod hdd ?_)
  have hsz := raw_size hk
  rw [if_neg (by rw [hsz, bne_self_eq_false]; exact Bool.false_ne_true)]
  refine wpAny_bind (wpAny_pure ?_)
  refine wpAny_bind (wpAny_dictEpoch hod hdd ?_)
  rw [if_neg (by rw [bne_self_eq_false]; exact Bool.false_ne_true)]
  refine wpAny_pure ?_
  have hlt' : i < es.size := hsz ▸ (List.getElem?_eq_some_iff.mp hx).1
  have hkey : es[i].key = key := by
    rw [← hk, List.getElem?_map, Array.getElem?_toList, Array.getElem?_eq_getElem hlt'] at hx
    exact Option.some.inj hx
  dsimp only
  rw [show (if ((i : Nat) : Int) < 0 then none else es[((i : Nat) : Int).toNat]?) = some es[i] from (if_neg (Int.not_lt.mpr (Int.natCast_nonneg i))).trans (Array.getElem?_eq_getElem hlt')]
  refine wpAny_bind ?_
  first | refine wpAny_bind (wpAny_typeNameOfWhole_keyiter hit.typeIs (wpAny_pure ?_)) | refine wpAny_bind (wpAny_typeNameOf_keyiter hit.typeIs (wpAny_pure ?_))
  refine wpAny_bind (wpAny_isOneOf_keyiter hit.typeIs ?_)
  show wpAny _ _ (setField (.ref it) 1 (rawInt ((i : Int) + 1)) >>= _) _ _ s
  refine wpAny_bind (wpAny_setField ho hd (by simp) ?_)
  have hit' : (s.heap.update it (Obj.mapFields (·.setIfInBounds 1 (rawInt ((i : Int) + 1))))).IsKeyIter it d (i + 1) ks.length ep :=
    ⟨_, Heap.get?_update_self _ ho (Obj.isFreed_of_fields (Obj.data_mapFields hd _)), (Obj.cls_mapFields ..).trans hc, by rw [Obj.data_mapFields hd]; simp [rawInt]⟩
  refine wpAny_bind (wpAny_holding ?_)
  refine wpAny_bind (wpAny_isOneOf_keyiter (s := { s with heap := s.heap.update it (Obj.mapFields (·.setIfInBounds 1 (rawInt ((i : Int) + 1)))) }) hit'.typeIs ?_)
  show wpAny _ _ (pure es[i].key) _ _ _
  exact wpAny_pure (wpAny_pure ⟨_, rfl, wpAny_pure (hkey ▸ hQ _ hit' (Heap.SameBut.update ..))⟩)

theorem raw_end {it d : Addr} {i ep : Nat} {ks : List Value} {Q : Option Value → Shared → Prop} (hh : A.handled = none) (hit : s.heap.IsKeyIter it d i ks.length ep) (hm : RawD s.heap d ks ep) (hx : ks[i]? = none)
    (hQ : ∀ h', Heap.ExtBut it s.heap h' → Q none { s with heap := h' }) : wpAny (model prog w) A (pyNext (.ref it)) Q E s := by
  obtain ⟨o, ho, hc, hd⟩ := id hit
  obtain ⟨od, es, hod, hcd, hdd, hk⟩ := hm
  unfold pyNext
  refine wpAny_bind (wpAny_attempt (wpAny_callSpecial?_slot (name := Str.ofString "__next__") hit.typeIs F.slot_dict_keyiterator_next
    (wpAny_call_entry F.slot_dict_keyiterator_next hit.typeIs F.entry_dict_keyiterator_next ?_ (F.args_dict_keyiterator_next_1 _))))
  refine wpAny_bind (wpAny_pure ?_)
  refine wpAny_bind ?_
  refine wpAny_bind ?_
  first | refine wpAny_bind (wpAny_typeNameOfWhole_keyiter hit.typeIs (wpAny_pure ?_)) | refine wpAny_bind (wpAny_typeNameOf_keyiter hit.typeIs (wpAny_pure ?_))
  refine wpAny_bind (wpAny_fieldsOf ho hd ?_)
  have hown : Builtin.Dict_items.ownsTuple "dict_keyiterator" = false := by decide
  rw [hown]
  show wpAny _ _ (if (Value.ref d == Value.none) = true then _ else _) _ _ s
  rw [if_neg (show ¬ ((Value.ref d == Value.none) = true) from Bool.false_ne_true)]
  refine wpAny_bind (wpAny_pure ?_)
  refine wpAny_bind (wpAny_dictEntries hod hdd ?_)
  have hsz := raw_size hk
  rw [if_neg (by rw [hsz, bne_self_eq_false]; exact Bool.false_ne_true)]
  refine wpAny_bind (wpAny_pure ?_)
  refine wpAny_bind (wpAny_dictEpoch hod hdd ?_)
  rw [if_neg (by rw [bne_self_eq_false]; exact Bool.false_ne_true)]
  refine wpAny_pure ?_
  have hge : es.size ≤ i := by rw [hsz]; exact List.getElem?_eq_none_iff.mp hx
  dsimp only
  rw [show (if ((i : Nat) : Int) < 0 then none else es[((i : Nat) : Int).toNat]?) = none from (if_neg (Int.not_lt.mpr (Int.natCast_nonneg i))).trans (Array.getElem?_eq_none hge)]
  refine wpAny_bind ?_
  first | refine wpAny_bind (wpAny_typeNameOfWhole_keyiter hit.typeIs (wpAny_pure ?_)) | refine wpAny_bind (wpAny_typeNameOf_keyiter hit.typeIs (wpAny_pure ?_))
  show wpAny _ _ (setField (.ref it) 0 .none >>= _) _ _ s
  refine wpAny_bind (wpAny_setField ho hd (by simp) ?_)
  show wpAny _ _ (newExc (.type "StopIteration") [] >>= _) _ _ _
  refine wpAny_bind ?_
  unfold newExc newTuple
  refine wpAny_bind (wpAny_newObj_type ?_ (by size_fits))
  refine wpAny_bind (m := firstArgMember _ _) (wpAny_of_eq (a := Value.none) (by first | rfl | (simp only [firstArgMember]; rfl)) ?_)
  refine wpAny_newObj_type ?_ (by size_fits)
  unfold raiseNew
  refine wpAny_bind (wpAny_handled ?_)
  rw [show A.in1.handled = none from hh]
  refine wpAny_bind (wpAny_pure (wpAny_throw ?_))
  refine wpAny_bind (wpAny_isInstance (T := "StopIteration") (b := true) ⟨_, Heap.get?_push_size _ rfl, rfl⟩ isSubtype_stop ?_)
  exact wpAny_pure (hQ _ (((Heap.SameBut.update ..).extBut.push _).push _))

theorem walks_raw (hh : A.handled = none) (I d : Addr) (hne : d ≠ I) (ks : List Value) (ep : Nat) :
    Walks prog w A I [I, d] [I] ks.length (fun i v => ks[i]? = some v) (fun i h => h.IsKeyIter I d i ks.length ep ∧ RawD h d ks ep) where
  sub := fun b hb => by simp at hb; simp [hb]
  frame := fun _ _ _ st hk => ⟨st.1.at fun o e => hk I (by simp) o e, st.2.at' fun o e => hk d (by simp) o e⟩
  item := fun i s Q E hi st hQ => by
    obtain ⟨x, hx⟩ : ∃ p, ks[i]? = some p := ⟨ks[i], by simp [hi]⟩
    refine raw_item st.1 st.2 hx fun h' hit' hs' => ?_
    exact hQ x h' s.toks hx ⟨hit', st.2.at' fun o e => (hs'.2 d hne).trans e⟩ fun b o hb e => hs'.extBut b o (fun h => hb (by simp [h])) e
  done := fun s Q E st hQ => raw_end hh st.1 st.2 (by simp) fun h' he' => hQ h' s.toks fun b o hb e => he' b o (fun h => hb (by simp [h])) e
  self := fun _ _ _ _ st hQ => wpAny_pyIter_keyiter st.1 hQ

theorem src_raw {d : Addr} {ks : List Value} {ep : Nat} (lo : (d == sysModules) = false) : KdlSrc prog w "dict" d d ks.length (fun i v => ks[i]? = some v) (fun h => RawD h d ks ep) where
  type := fun _ hm => hm.typeIs
  there := fun _ hm => ⟨hm.lt, hm.lt⟩
  keep := fun _ _ hm hk => hm.at' fun o e => hk d (.inl rfl) o e
  notList := by decide
  notTuple := by decide
  hint := fun _ _ _ _ hm hq => kdl_hint_dict hm.typeIs hq
  iter := fun _ _ hh hm => ⟨_, _, (fun _ _ hq => raw_iter lo hm hq), walks_raw hh _ d (Nat.ne_of_lt hm.lt) ks ep, ⟨⟨_, Heap.get?_push_size _ rfl, rfl, rfl⟩, hm.at' fun o e => Heap.get?_push_of_some _ e⟩⟩
theorem collect_raw {d : Addr} {ks : List Value} {ep : Nat} (hh : A.handled = none) (lo : (d == sysModules) = false) (hm : RawD s.heap d ks ep) (hn : ks.length ≤ 16777216) {Q : List Value → Shared → Prop}
    (k : ∀ h' tk, Gr s.heap h' → Q ks { s with heap := h', toks := tk }) : wpAny (model prog w) A (collect (.ref d)) Q E s := by
  refine kdu_collect (src_raw lo) hh hm (by rw [sizeLine_eq]; exact hn) fun h' tk acc hk hacc => ?_
  have : acc.toList = ks := by
    apply List.ext_getElem?
    intro j
    rw [Array.getElem?_toList]
    by_cases hj : j < acc.size
    · rw [Array.getElem?_eq_getElem hj]
      exact (hacc.2 j acc[j] (Array.getElem?_eq_getElem hj)).symm
    · have e1 : acc.size = ks.length := hacc.1
      rw [Array.getElem?_eq_none (Nat.le_of_not_lt hj), List.getElem?_eq_none (e1 ▸ Nat.le_of_not_lt hj)]
  rw [this]
  exact k h' tk hk
end
end Lm
end
section
open PySem PySem.W PyProof.Rows
set_option Elab.async false
set_option autoImplicit false
set_option linter.unusedVariables false
set_option linter.unusedSectionVars false
set_option linter.unusedSimpArgs false
set_option tactic.hygienic false
namespace Lm
section
variable {X : Cx} {tb : Tab} {n : Nat} {sc : Scope} {ls : Ls} {σ σ1 σ2 σ3 : St} {c : Cfg} {A : Around} {env : Env} {s : Shared} {E : Value → Shared → Prop} {p q u : PV} {v : Value} {h : Heap}

theorem keyI_inv {prog : Program} {w : World} {i : Int} {u : Value} (h : (intKind prog w).is i u = true) : ∃ t, u = .int i t := by
  cases u with
  | int j t => exact ⟨t, by rw [show j = i from eq_of_beq h]⟩
  | _ => exact bF h
theorem keyS_inv {prog : Program} {w : World} {i : Str} {u : Value} (h : (PySem.strKind prog w).is i u = true) : ∃ t, u = .str i t := by
  cases u with
  | str j t => exact ⟨t, by rw [show j = i from eq_of_beq h]⟩
  | _ => exact bF h
theorem ints_of_di {es : List (Int × PV)} {kvs : List (Int × Value)} (h2 : VMap X c h es kvs) (j : Nat) : (es.map fun e => PV.int e.1)[j]? = (kvs.map fun e => PV.int e.1)[j]? := by
  rw [show (es.map fun e => PV.int e.1) = (es.map (·.1)).map PV.int from (List.map_map ..).symm, h2.1, List.map_map]; rfl
theorem sortL_64 {ps qs : List PV} (h : sortL ps = some qs) : ps.length ≤ 64 := by
  rcases sortL_cases h with ⟨h, _⟩ | ⟨_, h, _⟩
  · exact Nat.le_of_lt (Nat.lt_of_lt_of_le h (by decide))
  · exact Nat.le_of_lt h
theorem isVs_ints {h' : Heap} {es : List (Int × PV)} {vs : List Value} (hv : vs.length = es.length) (hj : ∀ (j : Nat) (e : Int × PV) (u : Value), es[j]? = some e → vs[j]? = some u → ∃ t, u = .int e.1 t) : IsVs X c h' (es.map fun e => PV.int e.1) vs := by
  induction es generalizing vs with
  | nil => rw [List.eq_nil_of_length_eq_zero hv]; exact .nil
  | cons e es ih => cases vs with
    | nil => cases hv
    | cons u vs =>
      obtain ⟨t, rfl⟩ := hj 0 e u rfl rfl
      exact .cons .int' (ih (Nat.succ.inj hv) fun j e' u' h1 h2 => hj (j + 1) e' u' h1 h2)
theorem isVs_nks {h' : Heap} {es : List (NK × PV)} {xs : List (NK × Addr × Value)} (G : Gr h h') (h0 : ∀ x ∈ xs, IsV X c h (nkPV x.1) (.ref x.2.1)) (h2 : es.map (·.1) = xs.map (·.1)) : IsVs X c h' (es.map fun e => nkPV e.1) (xs.map fun x => .ref x.2.1) := by
  rw [show (es.map fun e => nkPV e.1) = (es.map (·.1)).map nkPV from by rw [List.map_map]; rfl, h2, List.map_map]
  clear h2
  induction xs with
  | nil => exact .nil
  | cons x xs ih => exact .cons ((h0 x List.mem_cons_self).gr G) (ih fun y hy => h0 y (List.mem_cons_of_mem _ hy))

/-- what is sorted: its items -/
theorem sorted_src (W : Wd X) (R : Rep X c σ s.heap) (hh : A.handled = none) {l : List PV} (hl : sortItems σ p = some l) (h64 : l.length ≤ 64) (hp : IsV X c s.heap p v) {Q' : List Value → Shared → Prop} (kq : ∀ vs h' tk, Gr s.heap h' → IsVs X c h' l vs → Q' vs { s with heap := h', toks := tk }) : wpAny (model X.prog X.w) A (collect v) Q' E s := by
  cases p with
  | lst l' =>
    rw [← Option.some.inj hl] at kq h64
    refine hp.lstE fun a vs n h1 m1 f => ?_
    have hlen : vs.size = _ := f.length
    have G : Gr s.heap ((s.heap.push (seqObj "list" #[] 0)).update s.heap.objs.size (Obj.mapSeq (· ++ vs.toList.toArray))) := fun b o e => by
      have hne : b ≠ s.heap.objs.size := fun z => by rw [z, get?_size] at e; exact nO e
      rw [Heap.get?_update_ne _ _ _ _ hne]
      exact Heap.get?_push_of_some _ e
    exact collect_list (vs := vs.toList) (by rw [Array.toArray_toList]; exact isLst h1) (kq _ _ s.toks G (f.gr G)) (by rw [sizeLine_eq, Array.length_toList, hlen]; exact Nat.le_trans h64 (by decide))
  | obj l' =>
    refine hp.objE fun a d hρ => oB (show (σ.H l').bind sortO = some l from hl) fun o hH hl2 => ?_
    obtain ⟨hM, ho'⟩ := R.at hH hρ
    clear hp hl
    cases o with
    | di es =>
      rw [← Option.some.inj hl2] at kq h64
      obtain ⟨rfl, kvs, h1, h2⟩ := ho'
      obtain ⟨ep, h1⟩ := h1.dictAt
      have hl3 := h2.length
      rw [List.length_map] at h64
      refine kdu_collect (kdl_dict (R.off W hM)) hh h1 (by rw [sizeLine_eq, hl3]; exact Nat.le_trans h64 (by decide)) fun h' tk acc hk' hacc => ?_
      refine kq _ h' tk hk' (isVs_ints (by rw [Array.length_toList]; exact hacc.1.trans hl3) fun j e u he hu' => ?_)
      obtain ⟨kk, x, h5, h6⟩ := hacc.2 j u (by rw [← Array.getElem?_toList]; exact hu')
      have h7 : (es.map (·.1))[j]? = (kvs.map (·.1))[j]? := by rw [h2.1]
      rw [List.getElem?_map, List.getElem?_map, he, h5] at h7
      rw [show e.1 = kk from Option.some.inj h7]
      exact keyI_inv h6
    | dn es =>
      rw [← Option.some.inj hl2] at kq h64
      obtain ⟨rfl, xs, h1, h0, h2, h3⟩ := ho'
      obtain ⟨o, es', ep, ho, hc, hd, he, his, hn⟩ := h1
      have hl3 := (dn_map h2 h3).length
      rw [List.length_map] at hl3 h64
      exact collect_raw hh (R.off W hM) ⟨o, es', ho, hc, hd, by rw [he, List.map_map]; rfl⟩ (by rw [List.length_map, hl3]; exact Nat.le_trans h64 (by decide)) fun h' tk G => kq _ h' tk G (isVs_nks G h0 h2)
    | _ => exact nO hl2
  | _ => exact nO hl
theorem op_sorted (W : Wd X) (R : Rep X c σ s.heap) (hu : A.units + 500 < cLine) (hh : A.handled = none) {r : PV} (e : sortv σ p = some r) (hp : IsV X c s.heap p v) {Q : Value → Shared → Prop} : Pu X c s r Q → wpAny (model X.prog X.w) A (call (.builtin "sorted") [v]) Q E s :=
  oB e fun l hl e => oI e fun hk e => oM e fun qs hq k => sorted_of (Nat.lt_of_le_of_lt (Nat.add_le_add_left (by decide) _) hu) R.fresh hk hq (fun Q' kq => sorted_src (A := A.in1) W R hh hl (sortL_64 hq) hp kq) k

/-- what a loop walks over: the items l, by the iterator I -/
inductive Src (X : Cx) (A : Around) (c : Cfg) (σ : St) (hb h : Heap) (I : Addr) (l : List PV) (loc : Option Loc) : Prop
  | mk (fp : List Addr) (P : Nat → Value → Prop) (St : Nat → Heap → Prop) : Walks X.prog X.w A I fp [I] l.length P St → St 0 h → (∀ i u q, P i u → l[i]? = some q → ∀ c' h', Pres c hb c' h' → IsV X c' h' q u) →
    (∀ b ∈ fp, b = I ∨ (∃ o, h.get? b = some o) ∧ (¬ c.M b ∨ ∃ p o x, loc = some p ∧ σ.H p = some o ∧ c.ρ p = some (x, b))) →
    (∀ i h', St i h' → ∃ o m, h'.get? I = some o ∧ o.cls = .type m ∧ m ∈ ["list_iterator", "range_iterator", "dict_keyiterator", "bytes_iterator"]) → Src X A c σ hb h I l loc

/-- where a walked thing lies -/
noncomputable def AtSrc (c : Cfg) (σ : St) (loc : Option Loc) (b : Addr) : Prop := ¬ c.M b ∨ ∃ p o x, loc = some p ∧ σ.H p = some o ∧ c.ρ p = some (x, b)
theorem it_lst (hh : A.handled = none) {l : List PV} {loc : Option Loc} {a : Addr} {vs : Array Value} {n : Nat} (h1 : s.heap.get? a = some (lstObj vs n)) (f : IsVs X c s.heap l vs.toList) (hm : AtSrc c σ loc a) {Q : Value → Shared → Prop}
    (k : ∀ oI, Src X A c σ s.heap (s.heap.push oI) s.heap.objs.size l loc → Q (.ref s.heap.objs.size) { s with heap := s.heap.push oI }) : wpAny (model X.prog X.w) A (pyIter (.ref a)) Q E s := by
  have hne : a ≠ s.heap.objs.size := fun z => by rw [z, get?_size] at h1; exact nO h1
  have hlen := f.length
  rw [Array.length_toList] at hlen
  refine wpAny_pyIter_list (isLst h1) (k _ ⟨_, _, _, hlen ▸ Walks.list hh s.heap.objs.size a hne vs, ⟨⟨_, Heap.get?_push_size _ rfl, rfl, rfl⟩, (isLst (s := s) h1).push _⟩, fun i u q hP hq c' h' P => ?_, fun b hb => ?_, fun i h' st => ?_⟩)
  · obtain ⟨w, g1, g2⟩ := f.get hq
    rw [Array.getElem?_toList, hP] at g1
    rw [Option.some.inj g1]
    exact g2.mono P
  · rcases List.mem_cons.mp hb with rfl | hb
    · exact .inl rfl
    · rw [List.mem_singleton.mp hb]; exact .inr ⟨⟨_, Heap.get?_push_of_some _ h1⟩, hm⟩
  · obtain ⟨⟨o, e1, e2, _⟩, _⟩ := st
    exact ⟨o, _, e1, e2, .head _⟩
theorem it_dic (hh : A.handled = none) {K : Type} [DecidableEq K] {knd : KeyKind X.prog X.w K} {l : List PV} {loc : Option Loc} {a : Addr} {kvs : List (K × Value)} (h0 : (a == sysModules) = false) (h1 : s.heap.DictOf knd a kvs) (hm : AtSrc c σ loc a)
    (hz : kvs.length = l.length) (hv : ∀ (i : Nat) (q : PV) (key : K) (x u : Value), l[i]? = some q → kvs[i]? = some (key, x) → knd.is key u = true → ∀ c' h', IsV X c' h' q u) {Q : Value → Shared → Prop}
    (k : ∀ oI, Src X A c σ s.heap (s.heap.push oI) s.heap.objs.size l loc → Q (.ref s.heap.objs.size) { s with heap := s.heap.push oI }) : wpAny (model X.prog X.w) A (pyIter (.ref a)) Q E s := by
  obtain ⟨ep, h1⟩ := h1.dictAt
  refine wpAny_pyIter_dict h0 h1 (k _ ⟨_, _, _, hz ▸ Walks.dictKeys (knd := knd) (A := A) hh s.heap.objs.size a (Nat.ne_of_lt h1.lt_size) kvs ep, ⟨⟨_, Heap.get?_push_size _ rfl, rfl, by rw [← hz]; rfl⟩, h1.push _⟩, fun i u q hP hq c' h' P => ?_, fun b hb => ?_, fun i h' st => ?_⟩)
  · obtain ⟨key, x, g1, g2⟩ := hP
    exact hv i q key x u hq g1 g2 c' h'
  · rcases List.mem_cons.mp hb with rfl | hb
    · exact .inl rfl
    · obtain ⟨o, es, ho, _⟩ := h1
      rw [List.mem_singleton.mp hb]; exact .inr ⟨⟨_, Heap.get?_push_of_some _ ho⟩, hm⟩
  · obtain ⟨⟨o, e1, e2, _⟩, _⟩ := st
    exact ⟨o, _, e1, e2, .tail _ (.tail _ (.head _))⟩
theorem it_bytes (hh : A.handled = none) {b : Array UInt8} (hp : IsV X c s.heap (.bytes b) v) {Q : Value → Shared → Prop}
    (k : ∀ oI, Src X A c σ s.heap (s.heap.push oI) s.heap.objs.size (b.toList.map fun x => .int x.toNat) none → Q (.ref s.heap.objs.size) { s with heap := s.heap.push oI }) : wpAny (model X.prog X.w) A (pyIter v) Q E s := hp.bytesE fun t => by
  refine KBw.pyIter_bytes (k _ ?_)
  have hz : b.size = (b.toList.map fun x => PV.int x.toNat).length := by rw [List.length_map, Array.length_toList]
  refine ⟨_, _, _, hz ▸ KBw.walks (prog := X.prog) (w := X.w) hh s.heap.objs.size b t, ⟨_, Heap.get?_push_size _ rfl, rfl, rfl⟩, fun i u q hP hq c' h' P => ?_, fun b hb => .inl (List.mem_singleton.mp hb), fun i h' st => ?_⟩
  · obtain ⟨cc, t', g1, rfl⟩ := hP
    rw [List.getElem?_map, Array.getElem?_toList, g1] at hq
    rw [← Option.some.inj hq]
    exact .int'
  · obtain ⟨o, e1, e2, _⟩ := st
    exact ⟨o, _, e1, e2, .tail _ (.tail _ (.tail _ (.head _)))⟩
theorem it_dcs (hh : A.handled = none) {ks : List Str} {vs : List PV} (hlen : ks.length = vs.length) (hp : IsV X c s.heap (.dcs ks vs) v) {Q : Value → Shared → Prop}
    (k : ∀ oI, Src X A c σ s.heap (s.heap.push oI) s.heap.objs.size (ks.map .str) none → Q (.ref s.heap.objs.size) { s with heap := s.heap.push oI }) : wpAny (model X.prog X.w) A (pyIter v) Q E s := hp.dcsE fun a ws h0 h1 m1 f => by
  refine it_dic hh h0 h1 (.inl m1) (by rw [List.length_zip, List.length_map, f.length, hlen, Nat.min_self]) (fun i q key x u hq g1 g2 c' h' => ?_) k
  rw [List.getElem?_map, (List.getElem?_zip_eq_some.mp g1).1] at hq
  obtain ⟨t, rfl⟩ := keyS_inv g2
  rw [← Option.some.inj hq]
  exact .str'
theorem it_obj (W : Wd X) (R : Rep X c σ s.heap) (hh : A.handled = none) {l' : Loc} {o : AO} {l : List PV} (hH : σ.H l' = some o) (hl : itemsO o = some l) (hp : IsV X c s.heap (.obj l') v) {Q : Value → Shared → Prop}
    (k : ∀ oI, Src X A c σ s.heap (s.heap.push oI) s.heap.objs.size l (some l') → Q (.ref s.heap.objs.size) { s with heap := s.heap.push oI }) : wpAny (model X.prog X.w) A (pyIter v) Q E s := hp.objE fun a d hρ => by
  obtain ⟨hM, ho'⟩ := R.at hH hρ
  have hm : AtSrc c σ (some l') d := .inr ⟨_, _, _, rfl, hH, hρ⟩
  clear hp hH hρ
  cases o with
  | lst =>
    obtain ⟨rfl, vs, n, h1, f⟩ := ho'
    exact it_lst hh h1 (Option.some.inj hl ▸ f) hm k
  | di es =>
    rw [← Option.some.inj hl] at k
    obtain ⟨rfl, kvs, h1, h2⟩ := ho'
    refine it_dic hh (R.off W hM) h1 hm (by rw [h2.length, List.length_map]) (fun i q key x u hq g1 g2 c' h' => ?_) k
    rw [ints_of_di h2, List.getElem?_map, g1] at hq
    obtain ⟨t, rfl⟩ := keyI_inv g2
    rw [← Option.some.inj hq]
    exact .int'
  | _ => exact nO hl
theorem op_iter (W : Wd X) (R : Rep X c σ s.heap) (hh : A.handled = none) {l : List PV} {loc : Option Loc} (e : items σ p = some (l, loc)) (hp : IsV X c s.heap p v) {Q : Value → Shared → Prop}
    (k : ∀ oI, Src X A c σ s.heap (s.heap.push oI) s.heap.objs.size l loc → Q (.ref s.heap.objs.size) { s with heap := s.heap.push oI }) : wpAny (model X.prog X.w) A (pyIter v) Q E s := by
  cases p with
  | lst l =>
    cases Option.some.inj e
    exact hp.lstE fun a vs n h1 m1 f => it_lst hh h1 f (.inl m1) k
  | bytes b =>
    cases Option.some.inj e
    exact it_bytes hh hp k
  | dcs ks vs =>
    refine oI e fun hlen e => ?_
    cases Option.some.inj e
    exact it_dcs hh hlen hp k
  | obj l' =>
    refine oB e fun o hH e1 => oB e1 fun l2 hl e2 => ?_
    cases Option.some.inj e2
    exact it_obj W R hh hH hl hp k
  | _ => exact nO e
end
end Lm
end
section
open PySem PySem.W PyProof.Rows
set_option Elab.async false
set_option autoImplicit false
set_option linter.unusedVariables false
set_option linter.unusedSectionVars false
set_option linter.unusedSimpArgs false
set_option tactic.hygienic false
namespace Lm
section
variable {X : Cx} {tb : Tab} {n : Nat} {sc : Scope} {ls : Ls} {σ σ' σ1 σ2 σ3 : St} {c c' : Cfg} {A : Around} {env : Env} {s : Shared} {E : Value → Shared → Prop} {p q u : PV} {v : Value} {h h' : Heap} {I : Addr}

/-- the iterator's own turn -/
theorem Rep.nextI (R : Rep X c σ h) (hM : c.M I) (hW : ¬ Wr c σ I) (hk : ∀ b o, b ≠ I → h.get? b = some o → h'.get? b = some o) (hl : Live h' I) : Rep X c σ h' :=
  R.stay (fun a l => by
    by_cases z : a = I
    · subst z; exact hl
    · obtain ⟨o, e⟩ := l; exact ⟨o, hk a o z e⟩) fun b o e q => hk b o (fun z => q.elim (fun n => n (z ▸ hM)) fun w => hW (z ▸ w)) e
theorem Ext.nextI (R : Rep X c σ h) (hW : ¬ Wr c σ I) (hk : ∀ b o, b ≠ I → h.get? b = some o → h'.get? b = some o) (hl : Live h' I) : Ext c σ h c σ h' (· = I) where
  live := fun a l => by
    by_cases z : a = I
    · subst z; exact hl
    · obtain ⟨o, e⟩ := l; exact ⟨o, hk a o z e⟩
  keep := fun b ob e _ z => hk b ob z e
  ver := fun q oq x b e1 e2 _ => ⟨e1, fun y hy => hk b y (fun z => hW (z ▸ ⟨q, oq, x, e1, e2⟩)) hy⟩
  vle := fun _ => Nat.le_refl _
  m1 := fun b e => .inl e
  m2 := fun b e _ => e
  wr := fun b e => .inl e
  rho := fun _ _ e => e
theorem Pres.dropI : Pres c h (c.drop I) h := Pres.drop
/-- the iterator is given up -/
theorem Rep.doneI (R : Rep X c σ h) (hM : c.M I) (hW : ¬ Wr c σ I) (hk : ∀ b o, b ≠ I → h.get? b = some o → h'.get? b = some o) : Rep X (c.drop I) σ h' where
  base := fun a o e => hk a o (fun z => by rw [z] at e; rw [R.low I hM] at e; cases e) (R.base a o e)
  low := fun b q => R.low b q.1
  up := fun b q => by obtain ⟨o, e⟩ := R.up b q.1; exact ⟨o, hk b o q.2 e⟩
  obj := fun p o e => by
    obtain ⟨a, d, e1, e2, e3⟩ := R.obj p o e
    have hd : d ≠ I := fun z => hW (z ▸ ⟨p, o, a, e, e1⟩)
    exact ⟨a, d, e1, ⟨e2, hd⟩, ORep.mono (show Pres c h (c.drop I) h' from ⟨fun x o' ex nx => ⟨hk x o' (fun z => nx (z ▸ hM)) ex, fun q => nx q.1⟩, fun _ _ e => e⟩) (fun b hb => hk d b hd hb) e3⟩
  inj := R.inj
  nx := R.nx
theorem Ext.doneI {c₀ : Cfg} {σ₀ : St} {h₀ : Heap} {Z : Addr → Prop} (R₀ : Rep X c₀ σ₀ h₀) (E : Ext c₀ σ₀ h₀ c σ h (fun a => Z a ∨ a = I)) (hI : h₀.get? I = none) (hk : ∀ b o, b ≠ I → h.get? b = some o → h'.get? b = some o) : Ext c₀ σ₀ h₀ (c.drop I) σ h' Z where
  live := fun a l => by
    have ne : a ≠ I := fun z => l.no (z ▸ hI)
    obtain ⟨o, e⟩ := E.live a l; exact ⟨o, hk a o ne e⟩
  keep := fun a o e n z => by
    have ne : a ≠ I := fun y => by rw [y, hI] at e; cases e
    exact hk a o ne (E.keep a o e n fun q => q.elim z ne)
  ver := fun p o x a e1 e2 e3 => by
    have ne : a ≠ I := fun z => (R₀.up a (R₀.wrM ⟨p, o, x, e1, e2⟩)).no (z ▸ hI)
    obtain ⟨g1, g2⟩ := E.ver p o x a e1 e2 e3
    exact ⟨g1, fun b hb => hk a b ne (g2 b hb)⟩
  vle := E.vle
  m1 := fun a q => E.m1 a q.1
  m2 := fun a q nw => ⟨E.m2 a q nw, fun z => (R₀.up a q).no (z ▸ hI)⟩
  wr := fun a q => E.wr a q
  rho := E.rho

/-- where a loop stands: i items are taken -/
structure Lp (X : Cx) (A : Around) (l : List PV) (loc : Option Loc) (σ₀ : St) (I : Addr) (fp : List Addr) (P : Nat → Value → Prop) (Sx : Nat → Heap → Prop) (c₁ : Cfg) (h₁ : Heap) (i : Nat) (c : Cfg) (σ : St) (h : Heap) : Prop where
  w : Walks X.prog X.w A I fp [I] l.length P Sx
  val : ∀ i u q, P i u → l[i]? = some q → ∀ c' h', Pres c₁ h₁ c' h' → IsV X c' h' q u
  lv : ∀ i h', Sx i h' → ∃ o m, h'.get? I = some o ∧ o.cls = .type m ∧ m ∈ ["list_iterator", "range_iterator", "dict_keyiterator", "bytes_iterator"]
  st : Sx i h
  le : i ≤ l.length
  M : c.M I
  W : ¬ Wr c σ I
  pres : Pres c₁ h₁ c h
  v : sameV loc σ₀ σ = true
  fpk : ∀ b ∈ fp, b = I ∨ (∃ o, h.get? b = some o) ∧ (¬ c.M b ∨ ∃ p o x, loc = some p ∧ σ.H p = some o ∧ c.ρ p = some (x, b))

variable {l : List PV} {loc : Option Loc} {σ₀ : St} {fp : List Addr} {P : Nat → Value → Prop} {Sx : Nat → Heap → Prop} {c₁ : Cfg} {h₁ : Heap} {i : Nat}

theorem Lp.item (L : Lp X A l loc σ₀ I fp P Sx c₁ h₁ i c σ s.heap) (R : Rep X c σ s.heap) {x : PV} (hx : l[i]? = some x) {Q : Option Value → Shared → Prop}
    (k : ∀ v h' tk, IsV X c h' x v → Lp X A l loc σ₀ I fp P Sx c₁ h₁ (i + 1) c σ h' → Rep X c σ h' → Ext c σ s.heap c σ h' (· = I) → Q (some v) { s with heap := h', toks := tk }) : wpAny (model X.prog X.w) A (pyNext (.ref I)) Q E s := by
  have hi : i < l.length := (List.getElem?_eq_some_iff.mp hx).1
  refine L.w.item i s Q E hi L.st fun v h' tk hP st hk => ?_
  have hk' : ∀ b o, b ≠ I → s.heap.get? b = some o → h'.get? b = some o := fun b o ne e => hk b o (by simpa using ne) e
  obtain ⟨oi, m, e1, _⟩ := L.lv _ _ st
  have lI : Live h' I := ⟨oi, e1⟩
  have pr : Pres c s.heap c h' := ⟨fun a o e n => ⟨hk' a o (fun z => n (z ▸ L.M)) e, n⟩, fun _ _ e => e⟩
  have pr1 : Pres c₁ h₁ c h' := ⟨fun a o e n => by obtain ⟨g1, g2⟩ := L.pres.data a o e n; exact pr.data a o g1 g2, L.pres.rho⟩
  refine k v h' tk (L.val i v x hP hx c h' pr1) ⟨L.w, L.val, L.lv, st, hi, L.M, L.W, pr1, L.v, fun b hb => ?_⟩ (R.nextI L.M L.W hk' lI) (Ext.nextI R L.W hk' lI)
  rcases L.fpk b hb with rfl | ⟨⟨o, e⟩, z⟩
  · exact .inl rfl
  · by_cases hbI : b = I
    · exact .inl hbI
    · exact .inr ⟨⟨o, hk' b o hbI e⟩, z⟩
theorem Lp.done (L : Lp X A l loc σ₀ I fp P Sx c₁ h₁ i c σ s.heap) (hi : l.length ≤ i) {Q : Option Value → Shared → Prop}
    (k : ∀ h' tk, (∀ b o, b ≠ I → s.heap.get? b = some o → h'.get? b = some o) → Q none { s with heap := h', toks := tk }) : wpAny (model X.prog X.w) A (pyNext (.ref I)) Q E s := by
  have e : i = l.length := Nat.le_antisymm L.le hi
  exact L.w.done s Q E (e ▸ L.st) fun h' tk hk => k h' tk fun b o ne e => hk b o (by simpa using ne) e
theorem Lp.step {Z : Addr → Prop} (L : Lp X A l loc σ₀ I fp P Sx c₁ h₁ i c σ h) (R : Rep X c σ h) (E : Ext c σ h c' σ' h' Z) (hz : ∀ a, Z a → c.M a) (hI : ¬ Z I) (hv : sameV loc σ₀ σ' = true) : Lp X A l loc σ₀ I fp P Sx c₁ h₁ i c' σ' h' := by
  have pr := Ext.pres R hz E
  have keepI : ∀ o, h.get? I = some o → h'.get? I = some o := fun o e => E.keep I o e L.W hI
  have fk : ∀ b ∈ fp, b = I ∨ (∀ o, h.get? b = some o → h'.get? b = some o) ∧ ((∃ o, h'.get? b = some o) ∧ (¬ c'.M b ∨ ∃ p o x, loc = some p ∧ σ'.H p = some o ∧ c'.ρ p = some (x, b))) := fun b hb => by
    rcases L.fpk b hb with hbI | ⟨⟨o, e⟩, z⟩
    · exact .inl hbI
    · refine .inr ?_
      rcases z with z | ⟨p, o', x, rfl, e1, e2⟩
      · exact ⟨fun o' e' => (pr.data b o' e' z).1, ⟨o, (pr.data b o e z).1⟩, .inl (pr.data b o e z).2⟩
      · have h1 := L.v
        simp only [sameV, beq_iff_eq] at h1 hv
        obtain ⟨g1, g2⟩ := E.ver p o' x b e1 e2 (hv.trans h1.symm)
        exact ⟨g2, ⟨o, g2 o e⟩, .inr ⟨p, o', x, rfl, g1, E.rho _ _ e2⟩⟩
  refine ⟨L.w, L.val, L.lv, ?_, L.le, E.m2 I L.M L.W, fun w => ?_, ⟨fun a o e n => by obtain ⟨g1, g2⟩ := L.pres.data a o e n; exact pr.data a o g1 g2, fun p x e => E.rho _ _ (L.pres.rho p x e)⟩, hv, fun b hb => (fk b hb).imp id fun q => q.2⟩
  · exact L.w.frame i h h' L.st fun b hb o e => by
      rcases fk b hb with hbI | ⟨g, _⟩
      · subst hbI; exact keepI o e
      · exact g o e
  · obtain ⟨oi, m, e1, _⟩ := L.lv _ _ L.st
    rcases E.wr I w with w | w
    · exact L.W w
    · rw [e1] at w; cases w

/-- a loop begins -/
theorem Lp.start (R : Rep X c σ h) (oI : Obj) (Sr : Src X A c σ h (h.push oI) h.objs.size l loc) : ∃ fp P Sx, Lp X A l loc σ h.objs.size fp P Sx c h 0 (c.mark (· = h.objs.size)) σ (h.push oI) ∧ Rep X (c.mark (· = h.objs.size)) σ (h.push oI) ∧
    Ext c σ h (c.mark (· = h.objs.size)) σ (h.push oI) NoZ := by
  obtain ⟨fp, P, Sx, w, st, val, fpk, lv⟩ := Sr
  have hI : h.get? h.objs.size = none := get?_size h
  have hMI : ¬ c.M h.objs.size := R.fresh _ hI
  have hlive : Live (h.push oI) h.objs.size := by obtain ⟨o, m, e, _⟩ := lv 0 _ st; exact ⟨o, e⟩
  have hW : ¬ Wr (c.mark (· = h.objs.size)) σ h.objs.size := fun w' => by
    obtain ⟨p, o, x, e1, e2⟩ := w'
    exact hMI (R.wrM ⟨p, o, x, e1, e2⟩)
  refine ⟨fp, P, Sx, ⟨w, val, lv, st, Nat.zero_le _, .inr rfl, hW, ?_, ?_, fun b hb => ?_⟩, R.mark (S := (· = h.objs.size)) (Gr.push _) (fun b e => e ▸ hI) (fun b e => e ▸ hlive), Ext.mark (S := (· = h.objs.size)) (Gr.push _) fun b e => e ▸ hI⟩
  · exact ⟨fun a o e n => ⟨Gr.push _ a o e, fun q => q.elim n fun q => by rw [q, hI] at e; cases e⟩, fun _ _ e => e⟩
  · cases loc <;> simp [sameV]
  · rcases fpk b hb with rfl | ⟨⟨o, e⟩, z⟩
    · exact .inl rfl
    · by_cases hbI : b = h.objs.size
      · exact .inl hbI
      · refine .inr ⟨⟨o, e⟩, z.imp (fun z q => q.elim z hbI) fun z => z⟩
end
end Lm
end
section
open PySem PySem.W PyProof.Rows
set_option Elab.async false
set_option autoImplicit false
set_option linter.unusedVariables false
set_option linter.unusedSectionVars false
set_option linter.unusedSimpArgs false
set_option tactic.hygienic false
namespace Lm
section
variable {X : Cx} {tb : Tab} {n : Nat} {sc : Scope} {ls : Ls} {σ σ' σ1 σ2 σ3 : St} {c c' : Cfg} {A : Around} {env : Env} {s : Shared} {E : Value → Shared → Prop} {p q u : PV} {v : Value} {h h' : Heap} {I : Addr}

theorem At.step {ls' : Ls} (a : At X n sc ls σ c A env h) (R : Rep X c' σ' h') (F : Fok X c' σ' h' env ls') : At X n sc ls' σ' c' A env h' := ⟨a.room, a.scope, R, F⟩

theorem Fok.sub {l' : Ls} (F : Fok X c σ h env ls) (e : Sub l' ls) : Fok X c σ h env l' := { F with vars := fun k p g => F.vars k p (e k p g) }
theorem Fok.doneI (F : Fok X c σ h env ls) (hM : c.M I) (hk : ∀ b o, b ≠ I → h.get? b = some o → h'.get? b = some o) (hI : ∀ a, Fa env a → a ≠ I) : Fok X (c.drop I) σ h' env ls := by
  have hk' : ∀ a, Fa env a → ∀ o, h.get? a = some o → h'.get? a = some o := fun a q o e => hk a o (hI a q) e
  refine ⟨F.kind, F.glob, F.bul, fun a q => ⟨⟨(F.fa a q).1, hI a q⟩, (F.fa a q).2⟩, ?_, fun x a q => ?_, F.apart, F.has, fun k p e g => ?_⟩
  · obtain ⟨m, hm⟩ := F.ns
    exact ⟨m, hm.at' fun o e => hk' _ (.inl rfl) o e⟩
  · obtain ⟨v, o, e1, e2⟩ := F.cells x a q
    exact ⟨v, o, hk' _ (.inr ⟨x, q⟩) o e1, e2⟩
  · obtain ⟨v, e1, e2⟩ := F.vars k p e g
    exact ⟨v, e1.keeps hk', IsV.mono (show Pres c h (c.drop I) h' from ⟨fun a o e n => ⟨hk a o (fun z => n (z ▸ hM)) e, fun q => n q.1⟩, fun _ _ e => e⟩) e2⟩
theorem owned_eq (target : Expr) (it v : Value) : letOwnedTupleGo target it v = pure () ∨ letOwnedTupleGo target it v = letOwnedTupleGo (.Tuple [] 0 default) it v := by
  cases target <;> first | exact .inl rfl | exact .inr rfl
theorem own_tuple {target : Expr} {v : Value} {M : Model} {h : Heap} (hl : ∃ o m, s.heap.get? I = some o ∧ o.cls = .type m ∧ m ∈ ["list_iterator", "range_iterator", "dict_keyiterator", "bytes_iterator"]) {Q : Unit → Shared → Prop} (k : Q () s) : wpAny M A (letOwnedTupleGo target (.ref I) v) Q E s := by
  rcases owned_eq target (.ref I) v with e | e
  · rw [e]; exact wpAny_pure k
  · rw [e]
    clear e target
    obtain ⟨o, m, e1, e2, e3⟩ := hl
    have hn : (["enumerate", "zip", "dict_itemiterator", "dict_reverseitemiterator", "odict_iterator", "itertools.zip_longest", "itertools.pairwise"].contains m) = false := by
      have : ∀ m ∈ ["list_iterator", "range_iterator", "dict_keyiterator", "bytes_iterator"], (["enumerate", "zip", "dict_itemiterator", "dict_reverseitemiterator", "odict_iterator", "itertools.zip_longest", "itertools.pairwise"].contains m) = false := by decide
      exact this m e3
    clear e3
    cases v with
    | ref b =>
      refine wpAny_bind (m := load I) (wpAny_load e1 ?_)
      clear e1
      rw [e2]
      cases o.data with
      | fields vs =>
        show wpAny M A (if (_ && _) = true then _ else _) Q E s
        rw [hn, Bool.false_and]
        exact wpAny_pure k
      | _ => exact wpAny_pure k
    | _ => exact wpAny_pure k

/-- one turn of a loop -/
theorem for_turn {target : Expr} {body : List Stmt} {loc : Option Loc} {asgn : PV → Ls → St → Ls × St → Prop} {bodyF : Ls → St → Fl × Ls × St → Prop} {σ₀ : St} (hasg : ∀ {x ls σ r}, asgn x ls σ r → AsOk X n sc target x ls σ r.1 r.2) (hbody : ∀ {ls σ r}, bodyF ls σ r → ExsOk X n sc body ls σ r)
    {l xs : List PV} {x : PV} {fp : List Addr} {P : Nat → Value → Prop} {Sx : Nat → Heap → Prop} {c₁ : Cfg} {h₁ : Heap} {c0 : Cfg} {σ0 : St} {s : Shared} {ls0 : Ls} (a0 : At X n sc ls0 σ0 c0 A env s.heap) (hI0 : s.heap.get? I = none) (htup : ∀ w, letOwnedTupleGo target (.ref I) w = pure ()) {ls l1 l2 : Ls} {σ s1 s2 : St} {c : Cfg} {h : Heap} {tk i : Nat}
    (hd : l.drop i = x :: xs) (R1 : Rep X c σ h) (E1 : Ext c0 σ0 s.heap c σ h (fun a => Fa env a ∨ a = I)) (F1 : Fok X c σ h env ls) (L1 : Lp X A l loc σ₀ I fp P Sx c₁ h₁ i c σ h) (hIF : ∀ a, Fa env a → a ≠ I) {fl : Fl} (hy : asgn x ls σ (l1, s1)) (hz : bodyF l1 s1 (fl, l2, s2)) {Q : Flow → Shared → Prop} {Q0 : Shared → Prop}
    (k : ∀ f c' h' tk, Rep X c' s2 h' → Ext c0 σ0 s.heap c' s2 h' (fun a => Fa env a ∨ a = I) → Fok X c' s2 h' env l2 → IsFl X c' h' fl f → (sameV loc σ₀ s2 = true → Lp X A l loc σ₀ I fp P Sx c₁ h₁ (i + 1) c' s2 h') → Q f { s with heap := h', toks := tk }) :
    wpAny (model X.prog X.w) A (pyNext (.ref I)) (fun o s' => match o with
      | none => Q0 s'
      | some v => wpAny (model X.prog X.w) A (assign target env v) (fun _ s3 => wpAny (model X.prog X.w) A (execs body env) Q E s3) E s') E { s with heap := h, toks := tk } := by
  have hx : l[i]? = some x := by
    have := congrArg (fun l => l[0]?) hd
    simpa using this
  refine L1.item (s := { s with heap := h, toks := tk }) R1 hx fun v h2 tk2 hv L2 R2 E2 => ?_
  have zI : ∀ a, a = I → c.M a := fun a e => e ▸ L1.M
  have F2 : Fok X c σ h2 env ls := F1.ext R1 zI (fun a f e => hIF a f e) E2
  refine hasg hy c { s with heap := h2, toks := tk2 } A _ env v _ ⟨a0.room, a0.scope, R2, F2⟩ hv fun c3 h3 tk3 R3 E3 F3 => ?_
  refine hbody hz c3 { s with heap := h3, toks := tk3 } A _ env _ ⟨a0.room, a0.scope, R3, F3⟩ fun f c4 h4 tk4 R4 E4 F4 hf => ?_
  have E24 := Ext.trans R2 E3 E4
  exact k f c4 h4 tk4 R4 (Ext.trans a0.rep E1 (Ext.trans R1 (E2.weaken fun a e => .inr e) (E24.weaken fun a e => .inl e))) F4 hf (L2.step R2 E24 (fun a f => (F2.fa a f).1) (fun f => hIF I f rfl))

/-- what stands between the turns of a loop -/
inductive FInv (X : Cx) (A : Around) (env : Env) (loc : Option Loc) (asgn : PV → Ls → St → Ls × St → Prop) (bodyF : Ls → St → Fl × Ls × St → Prop) (σ₀ : St) (l : List PV) (I : Addr) (fp : List Addr) (P : Nat → Value → Prop) (Sx : Nat → Heap → Prop) (c₁ : Cfg) (h₁ : Heap) (r : Fl × Ls × St) (c0 : Cfg) (σ0 : St) (s : Shared) (m : Nat) (s' : Shared) : Prop
  | mk (xs : List PV) (i : Nat) (ls : Ls) (σ : St) (c : Cfg) (h : Heap) (tk : Nat) : s' = { s with heap := h, toks := tk } → m = xs.length → l.drop i = xs → loopF loc asgn bodyF σ₀ xs ls σ r → Rep X c σ h → Ext c0 σ0 s.heap c σ h (fun a => Fa env a ∨ a = I) → Fok X c σ h env ls → Lp X A l loc σ₀ I fp P Sx c₁ h₁ i c σ h →
      FInv X A env loc asgn bodyF σ₀ l I fp P Sx c₁ h₁ r c0 σ0 s m s'
/-- how a loop goes on -/
inductive LoopV (loc : Option Loc) (asgn : PV → Ls → St → Ls × St → Prop) (bodyF : Ls → St → Fl × Ls × St → Prop) (σ₀ : St) (ls : Ls) (σ : St) (r : Fl × Ls × St) : List PV → Prop
  | nil : r = (.next, ls, σ) → LoopV loc asgn bodyF σ₀ ls σ r []
  | cons (x : PV) (xs : List PV) (l1 l2 : Ls) (s1 s2 : St) (fl : Fl) : asgn x ls σ (l1, s1) → bodyF l1 s1 (fl, l2, s2) → (fl.goes = true → sameV loc σ₀ s2 = true ∧ ∃ l3, Sub l3 l2 ∧ loopF loc asgn bodyF σ₀ xs l3 s2 r) → (fl.goes = false → r.2 = (l2, s2) ∧ r.1 = match fl with | .ret p => .ret p | _ => .next) → LoopV loc asgn bodyF σ₀ ls σ r (x :: xs)
theorem loopV {loc : Option Loc} {asgn : PV → Ls → St → Ls × St → Prop} {bodyF : Ls → St → Fl × Ls × St → Prop} {σ₀ : St} {xs : List PV} {ls : Ls} {σ : St} {r : Fl × Ls × St} (h : loopF loc asgn bodyF σ₀ xs ls σ r) : LoopV loc asgn bodyF σ₀ ls σ r xs := by
  cases h with
  | nil => exact .nil rfl
  | on hy hz hg hs hw hl => exact .cons _ _ _ _ _ _ _ hy hz (fun _ => ⟨hs, _, hw, hl⟩) fun e => bT (hg.symm.trans e)
  | brk hy hz => exact .cons _ _ _ _ _ _ _ hy hz (fun e => bF e) fun _ => ⟨rfl, rfl⟩
  | ret hy hz => exact .cons _ _ _ _ _ _ _ hy hz (fun e => bF e) fun _ => ⟨rfl, rfl⟩
theorem for_turns {target : Expr} {body : List Stmt} {loc : Option Loc} {asgn : PV → Ls → St → Ls × St → Prop} {bodyF : Ls → St → Fl × Ls × St → Prop} {σ₀ : St} (hasg : ∀ {x ls σ r}, asgn x ls σ r → AsOk X n sc target x ls σ r.1 r.2) (hbody : ∀ {ls σ r}, bodyF ls σ r → ExsOk X n sc body ls σ r)
    {l : List PV} {fp : List Addr} {P : Nat → Value → Prop} {Sx : Nat → Heap → Prop} {c₁ : Cfg} {h₁ : Heap} {r : Fl × Ls × St} {R : Result → Shared → Prop} {c0 : Cfg} {σ0 : St} {s : Shared} {ls0 : Ls} (a0 : At X n sc ls0 σ0 c0 A env s.heap) (hI0 : s.heap.get? I = none)
    (k : ∀ f c' h' tk, Rep X c' r.2.2 h' → Ext c0 σ0 s.heap c' r.2.2 h' (Fa env) → Fok X c' r.2.2 h' env r.2.1 → IsFl X c' h' r.1 f → R (.ok f) { s with heap := h', toks := tk }) (htup : ∀ w, letOwnedTupleGo target (.ref I) w = pure () := by intro _; rfl) {ls : Ls} {σ : St} {c : Cfg} {h : Heap} {tk : Nat}
    (hl : loopF loc asgn bodyF σ₀ l ls σ r) (Rp : Rep X c σ h) (Ex : Ext c0 σ0 s.heap c σ h (fun a => Fa env a ∨ a = I)) (F : Fok X c σ h env ls) (L : Lp X A l loc σ₀ I fp P Sx c₁ h₁ 0 c σ h) (hIF : ∀ a, Fa env a → a ≠ I) :
    codeAny (model X.prog X.w) A (.forLoop target (.ref I) body [] env) R { s with heap := h, toks := tk } := by
  refine codeAny_forLoop (FInv X A env loc asgn bodyF σ₀ l I fp P Sx c₁ h₁ r c0 σ0 s) ?_ l.length ⟨l, 0, ls, σ, c, h, tk, rfl, rfl, rfl, hl, Rp, Ex, F, L⟩ htup
  clear hl Rp Ex F L
  rintro m s' ⟨xs, i, ls', σ', c', h', tk', rfl, rfl, hd, hlp, R1, E1, F1, L1⟩
  rcases loopV hlp with h0 | ⟨x, xs, l1, l2, s1, s2, fl, hy, hz, hg, hs⟩
  · clear hlp
    subst h0
    refine L1.done (s := { s with heap := h', toks := tk' }) (List.drop_eq_nil_iff.mp hd) fun h2 tk2 hk => ?_
    exact wpAny_execs_nil (k .next _ h2 tk2 (R1.doneI L1.M L1.W hk) (Ext.doneI a0.rep E1 hI0 hk) (F1.doneI L1.M hk hIF) .next)
  · clear hlp
    refine for_turn (s := s) hasg hbody a0 hI0 htup hd R1 E1 F1 L1 hIF hy hz fun f c4 h4 tk4 R4 E4 F4 hf Ls => ?_
    clear R1 E1 F1 L1 hy hz
    have go : fl.goes = true → ∃ m, m < (x :: xs).length ∧ FInv X A env loc asgn bodyF σ₀ l I fp P Sx c₁ h₁ r c0 σ0 s m { s with heap := h4, toks := tk4 } := fun e => by
      obtain ⟨hs, l3, hw, hl'⟩ := hg e
      exact ⟨_, Nat.lt_succ_self _, xs, i + 1, l3, s2, c4, h4, tk4, rfl, rfl, by rw [← List.drop_drop, hd]; rfl, hl', R4, E4, F4.sub hw, Ls hs⟩
    have no : fl.goes = false → ∀ f, IsFl X c4 h4 r.1 f → R (.ok f) { s with heap := h4, toks := tk4 } := fun e f hf => by
      obtain ⟨e1, _⟩ := hs e
      exact k f c4 h4 tk4 (by rw [e1]; exact R4) (by rw [e1]; exact E4.fresh fun a e => e.imp id fun (e : a = I) => by rw [e]; exact hI0) (by rw [e1]; exact F4) hf
    clear k R4 E4 F4 hg Ls
    cases hf with
    | next => exact go rfl
    | cont => exact go rfl
    | brk => exact no rfl _ (by rw [(hs rfl).2]; exact .next)
    | ret hv => exact no rfl _ (by rw [(hs rfl).2]; exact .ret hv)

theorem exc_for {target iter : Expr} {body : List Stmt} {pos : Pos} {loc : Option Loc} {asgn : PV → Ls → St → Ls × St → Prop} {bodyF : Ls → St → Fl × Ls × St → Prop} (hasg : ∀ {x ls σ r}, asgn x ls σ r → AsOk X n sc target x ls σ r.1 r.2) (hbody : ∀ {ls σ r}, bodyF ls σ r → ExsOk X n sc body ls σ r)
    {l : List PV} {r : Fl × Ls × St} (htup : ∀ I w, letOwnedTupleGo target (.ref I) w = pure ()) (hfold : ∀ env x, foldedSetIterable iter env x = pure x)
    (hit : ∀ (c : Cfg) (s : Shared) (A : Around) (E : Value → Shared → Prop) (env : Env) (Q : Value → Shared → Prop), At X n sc ls σ c A env s.heap →
      (∀ c' h' tk oI, Rep X c' σ1 h' → Ext c σ s.heap c' σ1 h' NoZ → Src X A c' σ1 h' (h'.push oI) h'.objs.size l loc → Q (.ref h'.objs.size) { s with heap := h'.push oI, toks := tk }) → wpAny (model X.prog X.w) A (eval iter env) (fun x s1 => wpAny (model X.prog X.w) A (pyIter x) Q E s1) E s)
    (hl : loopF loc asgn bodyF σ1 l ls σ1 r) : ExOk X (n + 1) sc (.For target iter body [] pos) ls σ r := fun c s A E env Q a k => by
  refine wpAny_For (hit c s A E env _ (a.le (Nat.le_succ n)) fun c' h' tk oI R1 E1 Sr => ?_) (hfold env)
  obtain ⟨fp, P, Sx, L, R2, E2⟩ := Lp.start R1 oI Sr
  have a1 := (a.le (Nat.le_succ n)).next R1 E1
  have hI0 : h'.get? h'.objs.size = none := get?_size h'
  have hIF : ∀ b, Fa env b → b ≠ h'.objs.size := fun b f z => (R1.up b (a1.fok.fa b f).1).no (z ▸ hI0)
  have F2 : Fok X (c'.mark (· = h'.objs.size)) σ1 (h'.push oI) env ls := a1.fok.ext R1 (fun _ f => f.elim) (fun _ _ f => f) E2
  refine for_turns (s := { s with heap := h', toks := tk }) hasg hbody a1 hI0 (fun f c3 h3 tk3 R3 E3 F3 hf => k f c3 h3 tk3 R3 ?_ F3 hf) (htup _) hl R2 (E2.weaken fun _ f => f.elim) F2 L hIF
  exact Ext.trans a.rep (E1.weaken fun _ f => f.elim) E3
end
end Lm
end
section
open PySem PySem.W PyProof.Rows
set_option Elab.async false
set_option autoImplicit false
set_option linter.unusedVariables false
set_option linter.unusedSectionVars false
set_option linter.unusedSimpArgs false
set_option tactic.hygienic false
namespace Lm
section
variable {X : Cx} {tb : Tab} {n : Nat} {sc : Scope} {ls : Ls} {σ σ' σ1 σ2 σ3 : St} {c c' : Cfg} {A : Around} {env : Env} {s : Shared} {E : Value → Shared → Prop} {p q u : PV} {v : Value} {h h' : Heap} {I D : Addr}

noncomputable def testsM (env : Env) (ifs : List Expr) : Sem Bool := forIn ifs true fun c r => if r = true then do let ok ← isTrue c env (eval c env); pure (ForInStep.yield ok) else pure (ForInStep.yield r)

/-- what comes behind the tests of a turn -/
noncomputable def CTail (M : Model) (A : Around) (E : Value → Shared → Prop) (elt : Expr) (gens : List Comprehension) (scope : Scope) (pos : Pos) (depth : Nat) (acc : Value) (env : Env) (Q : Shared → Prop) (s : Shared) : Prop := match gens[depth + 1]? with
  | some g' => (∀ x, foldedSetIterable g'.iter env x = pure x) ∧ wpAny M A (eval g'.iter env) (fun x s5 => wpAny M A (pyIter x) (fun it' s6 => codeAny M A (.compStart (.ListComp elt gens scope pos) (depth + 1) it' acc env) (fun r s7 => match r with | .ok _ => Q s7 | .error _ => False) s6) E s5) E s
  | none => wpAny M A (eval elt env) (fun x s5 => wpAny M A (call (.builtin "list.append") [acc, x]) (fun _ s6 => Q s6) E s5) E s

theorem turn_open {M : Model} {elt : Expr} {gens : List Comprehension} {scope : Scope} {pos : Pos} {depth : Nat} {acc it : Value} {g : Comprehension} (hg : gens[depth]? = some g) (ha : g.is_async = 0) (hn : ∀ g', gens[depth + 1]? = some g' → g'.is_async = 0) {Q : PySem.Fin → Shared → Prop}
    (h : wpAny M A (pyNext it) (fun r s1 => match r with
      | none => Q (.done .next) s1
      | some v => wpAny M A (letOwnedTupleGo g.target it v) (fun _ s2 => wpAny M A (assign g.target env v) (fun _ s3 => wpAny M A (testsM env g.ifs) (fun ok s4 =>
          if ok = true then CTail M A E elt gens scope pos depth acc env (fun s5 => Q (.again (.compLoop (.ListComp elt gens scope pos) depth it acc env)) s5) s4
          else Q (.again (.compLoop (.ListComp elt gens scope pos) depth it acc env)) s4) E s3) E s2) E s1) E s) :
    wpAny M A (compTurn (.ListComp elt gens scope pos) depth it acc env) Q E s := by
  unfold compTurn
  dsimp only
  rw [hg]
  dsimp only
  have hb : (g.is_async != 0) = false := by rw [ha]; rfl
  simp only [hb, Bool.false_eq_true, if_false]
  refine wpAny_bind (wpAny_standAt (wpAny_bind (wpAny_mono h (fun r s1 h1 => ?_) fun _ _ e => e)))
  cases r with
  | none => exact wpAny_pure h1
  | some v =>
    refine wpAny_bind (wpAny_mono h1 (fun _ s2 h2 => wpAny_bind (wpAny_mono h2 (fun _ s3 h3 => wpAny_bind ?_) fun _ _ e => e)) fun _ _ e => e)
    refine wpAny_mono (t := testsM env g.ifs) h3 (fun ok s4 h4 => ?_) fun _ _ e => e
    cases ok with
    | false => exact wpAny_pure h4
    | true =>
      simp only [if_true] at h4 ⊢
      unfold CTail at h4
      cases hg' : gens[depth + 1]? with
      | none =>
        rw [hg'] at h4
        dsimp only at h4 ⊢
        exact wpAny_bind (wpAny_bind (wpAny_mono h4 (fun x s5 h5 => wpAny_bind (wpAny_mono h5 (fun _ s6 h6 => wpAny_pure (wpAny_pure h6)) fun _ _ e => e)) fun _ _ e => e))
      | some g' =>
        rw [hg'] at h4
        dsimp only at h4 ⊢
        have h1' := hn g' hg'
        obtain ⟨h2', h4⟩ := h4
        have hb' : (g'.is_async != 0) = false := by rw [h1']; rfl
        simp only [hb', Bool.false_eq_true, if_false, h2']
        refine wpAny_bind (wpAny_mono h4 (fun x s5 h5 => wpAny_bind (wpAny_standAt (wpAny_bind (wpAny_pure (wpAny_bind (wpAny_holding (wpAny_mono h5 (fun it' s6 h6 => ?_) fun _ _ e => e))))))) fun _ _ e => e)
        refine wpAny_bind (wpAny_runOwn (codeAny_mono h6 fun r s7 h7 => ?_))
        cases r with
        | ok f => exact wpAny_pure h7
        | error e => exact h7.elim

set_option tactic.hygienic true in
theorem loop_open {R : Result → Shared → Prop} {elt : Expr} {gens : List Comprehension} {scope : Scope} {pos : Pos} {depth : Nat} {acc it : Value} {g : Comprehension} (hg : gens[depth]? = some g) (ha : g.is_async = 0) (hn : ∀ g', gens[depth + 1]? = some g' → g'.is_async = 0)
    (I : Nat → Shared → Prop) (turn : ∀ m s E, I m s → wpAny (model X.prog X.w) A (pyNext it) (fun r s1 => match r with
      | none => R (.ok .next) s1
      | some v => wpAny (model X.prog X.w) A (letOwnedTupleGo g.target it v) (fun _ s2 => wpAny (model X.prog X.w) A (assign g.target env v) (fun _ s3 => wpAny (model X.prog X.w) A (testsM env g.ifs) (fun ok s4 =>
          if ok = true then CTail (model X.prog X.w) A E elt gens scope pos depth acc env (fun s5 => ∃ m', m' < m ∧ I m' s5) s4
          else ∃ m', m' < m ∧ I m' s4) E s3) E s2) E s1) E s) (m : Nat) (h : I m s) :
    codeAny (model X.prog X.w) A (.compLoop (.ListComp elt gens scope pos) depth it acc env) R s := by
  refine codeAny_loop rfl I (fun m s hI => ?_) m h
  show wpAny _ _ ((compTurn (.ListComp elt gens scope pos) depth it acc env).onRaise (fun x => do noteFrame x env; theTreesLotGoes x)) _ _ s
  refine wpAny_noted (turn_open hg ha hn (wpAny_mono (turn m s _ hI) (fun r s1 h1 => ?_) fun _ _ e => e))
  cases r with
  | none => exact h1
  | some v =>
    refine wpAny_mono h1 (fun _ s2 h2 => wpAny_mono h2 (fun _ s3 h3 => wpAny_mono h3 (fun ok s4 h4 => ?_) fun _ _ e => e) fun _ _ e => e) fun _ _ e => e
    cases ok with
    | false => exact ⟨rfl, h4⟩
    | true =>
      simp only [if_true] at h4 ⊢
      unfold CTail at h4 ⊢
      split at h4
      · rename_i g' hg'
        try simp only [hg']
        exact h4.imp id fun h4 => wpAny_mono h4 (fun x s5 h5 => wpAny_mono h5 (fun it' s6 h6 => codeAny_mono h6 fun r s7 h7 => by cases r <;> first | exact h7 | exact ⟨trivial, h7⟩) fun _ _ e => e) fun _ _ e => e
      · rename_i hg'
        try simp only [hg']
        exact wpAny_mono h4 (fun x s5 h5 => wpAny_mono h5 (fun _ s6 h6 => ⟨trivial, h6⟩) fun _ _ e => e) fun _ _ e => e

theorem start_open {R : Result → Shared → Prop} {elt : Expr} {gens : List Comprehension} {scope : Scope} {pos : Pos} {depth : Nat} {acc it : Value} {g : Comprehension} (hg : gens[depth]? = some g) (ha : g.is_async = 0)
    (h0 : codeAny (model X.prog X.w) A (.compLoop (.ListComp elt gens scope pos) depth it acc env) R s)
    (h : ∀ E, wpAny (model X.prog X.w) A (pyIter it) (fun it' s' => codeAny (model X.prog X.w) A (.compLoop (.ListComp elt gens scope pos) depth it' acc env) R s') E s) :
    codeAny (model X.prog X.w) A (.compStart (.ListComp elt gens scope pos) depth it acc env) R s := by
  refine codeAny_of_tree ?_
  show wpAny _ _ ((compStart (.ListComp elt gens scope pos) depth it acc env).onRaise (fun x => do noteFrame x env; standAt theWindowsPlace)) _ _ s
  refine wpAny_notedAt ?_
  unfold compStart
  have hc : clausesOf (.ListComp elt gens scope pos) = gens := rfl
  have hb : (g.is_async != 0) = false := by rw [ha]; rfl
  rw [hc, hg]
  simp only [Option.elim_some, hb, Bool.false_eq_true, if_false]
  show wpAny _ _ (ask >>= _) _ _ s
  refine wpAny_bind (wpAny_askSetting (wpAny_ite ?_))
  split
  · first
      | exact wpAny_bind (wpAny_pure (wpAny_pure (And.intro rfl h0)))
      | exact wpAny_pure (And.intro rfl h0)
  · first
      | exact wpAny_bind (wpAny_rule (wpAny_bind (wpAny_standAt (wpAny_bind (wpAny_mono (h _) (fun it' s' h' => wpAny_pure (And.intro rfl h')) fun _ _ x => x)))))
      | (refine wpAny_bind (wpAny_rule ?_); show wpAny _ _ (standAt g.iter.pos >>= _) _ _ s; exact wpAny_bind (wpAny_standAt (wpAny_bind (wpAny_mono (h _) (fun it' s' h' => wpAny_pure (And.intro rfl h')) fun _ _ x => x))))
end
end Lm
end
section
open PySem PySem.W PyProof.Rows
set_option Elab.async false
set_option autoImplicit false
set_option linter.unusedVariables false
set_option linter.unusedSectionVars false
set_option linter.unusedSimpArgs false
set_option tactic.hygienic false
namespace Lm
section
variable {X : Cx} {tb : Tab} {n : Nat} {sc : Scope} {ls : Ls} {σ σ' σ1 σ2 σ3 : St} {c c' : Cfg} {A : Around} {env : Env} {s : Shared} {E : Value → Shared → Prop} {p q u : PV} {v : Value} {h h' : Heap} {I D : Addr}

set_option tactic.hygienic true in
theorem Fok.loc (F : Fok X c σ h env ls) (R : Rep X c σ h) {Z : Addr → Prop} (E : Ext c σ h c' σ' h' Z) (hz : ∀ a, Z a → c.M a) (hf : ∀ a, Fa env a → ¬ Z a) : Fok X c' σ' h' env ls := F.ext R hz hf E

theorem asgCs_ok {n : Nat} {ts : List Expr} {vs : List PV} {ls ls' : Ls} (c : Cfg) (s : Shared) (A : Around) (E : Value → Shared → Prop) (env : Env) (us : List Value) (Q : Unit → Shared → Prop) (e : asgCs sc ts vs ls = some ls') (a : At X n sc ls σ c A env s.heap) (hv : IsVs X c s.heap vs us)
    (k : ∀ h' tk, Rep X c σ h' → Ext c σ s.heap c σ h' (· = env.locals) → Fok X c σ h' env ls' → Q () { s with heap := h', toks := tk }) : wpAny (model X.prog X.w) A (assignInOrder ((assignEach ts env).map (·.2)) us) Q E s := by
  induction ts generalizing vs ls us s with
  | nil =>
    revert k
    refine oM e fun _ h1 k => ?_
    rw [nilO_eq h1] at hv
    exact hv.nilE (wpAny_assignInOrder_none (k s.heap s.toks a.rep Ext.refl a.fok))
  | cons t ts ih =>
    refine oB (show (headO vs).bind _ = some ls' from e) fun y h1 e2 => oB e2 fun x hx e1 => oI e1 fun hl e0 => ?_
    clear e e1 e2
    obtain ⟨pos, rfl⟩ := nmE_eq hx
    rw [headO_eq h1] at hv
    refine hv.consE fun w r e1 e2 => ?_
    refine wpAny_assignInOrder_more (t := assign (.Name x pos) env) (wpAny_assign_Name ?_)
    refine st_loc a.rep a.fok e1 (by rw [a.kind]; exact hl) fun h1 tk1 R1 E1 F1 => ?_
    have zM : ∀ b, b = env.locals → c.M b := fun b e => e ▸ (a.fok.fa _ (.inl rfl)).1
    exact ih { s with heap := h1, toks := tk1 } r e0 (a.step R1 F1) (e2.mono (Ext.pres a.rep zM E1)) fun h2 tk2 R2 E2 F2 => k h2 tk2 R2 (Ext.trans a.rep E1 E2) F2
theorem asgCs_plain (env : Env) {ts : List Expr} {vs : List PV} {ls ls' : Ls} (e : asgCs sc ts vs ls = some ls') : (assignEach ts env).length = vs.length ∧ (assignEach ts env).findIdx? (·.1) = none := by
  induction ts generalizing vs ls with
  | nil => exact oM e fun _ h1 => by rw [nilO_eq h1]; exact ⟨rfl, rfl⟩
  | cons t ts ih =>
    refine oB (show (headO vs).bind _ = some ls' from e) fun y h1 e => oB e fun x hx e => oI e fun hl e1 => ?_
    obtain ⟨pos, rfl⟩ := nmE_eq hx
    obtain ⟨i1, i2⟩ := ih e1
    rw [headO_eq h1]
    refine ⟨congrArg Nat.succ i1, ?_⟩
    show List.findIdx? _ ((false, _) :: assignEach ts env) = none
    rw [List.findIdx?_cons, i2]; rfl

theorem asgC_ok {t : Expr} {ls' : Ls} (e : asgC sc t p ls = some ls') (a : At X n sc ls σ c A env s.heap) (hv : IsV X c s.heap p v) {Q : Unit → Shared → Prop}
    (k : ∀ h' tk, Rep X c σ h' → Ext c σ s.heap c σ h' (· = env.locals) → Fok X c σ h' env ls' → Q () { s with heap := h', toks := tk }) : wpAny (model X.prog X.w) A (assign t env v) Q E s := by
  unfold asgC at e
  cases hn : nmE t with
  | some x =>
    rw [hn] at e
    obtain ⟨pos, rfl⟩ := nmE_eq hn
    refine oI (show (if sc.names.lookup x = some .local then some (setL x p ls) else none) = some ls' from e) fun hx e => ?_
    rw [← Option.some.inj e] at k
    exact wpAny_assign_Name (st_loc a.rep a.fok hv (by rw [a.kind]; exact hx) k)
  | none =>
    rw [hn] at e
    refine oB (show (tpE t).bind _ = some ls' from e) fun ts ht e0 => oB e0 fun vs hp e0 => ?_
    clear e hn
    obtain ⟨kk, pos, rfl⟩ := tpE_eq ht
    rw [asT_eq hp] at hv
    clear ht
    refine hv.tupE fun b us m h1 m1 f => ?_
    obtain ⟨g1, g2⟩ := asgCs_plain env e0
    have hsz : us.size = _ := f.length
    refine wpAny_assign_Tuple a.room.hh (isTup h1) (g1.trans hsz.symm) g2 fun h' eb => ?_
    have G : Gr s.heap h' := fun b o e => eb b o (fun z => by rw [z, get?_size] at e; exact nO e) e
    have R1 := a.rep.grow G
    have E1 : Ext c σ s.heap c σ h' NoZ := Ext.grow G
    exact asgCs_ok c { s with heap := h' } A E env us.toList Q e0 (a.next R1 E1) (f.gr G) fun h2 tk2 R2 E2 F2 => k h2 tk2 R2 (Ext.trans a.rep (E1.weaken fun _ f => f.elim) E2) F2

/-- a comprehension's list in the making -/
structure Acc (X : Cx) (c : Cfg) (σ : St) (h : Heap) (env : Env) (D : Addr) (outs : List PV) : Prop where
  at_ : ∃ vs k, h.get? D = some (lstObj vs k) ∧ IsVs X c h outs vs.toList
  M : c.M D
  W : ¬ Wr c σ D
  fa : ¬ Fa env D
noncomputable def ZC (env : Env) (D : Addr) (a : Addr) : Prop := a = env.locals ∨ a = D

theorem Acc.live {outs : List PV} (a : Acc X c σ h env D outs) : Live h D := by obtain ⟨vs, k, e, _⟩ := a.at_; exact ⟨_, e⟩
theorem Acc.ext {outs : List PV} (a : Acc X c σ h env D outs) (R : Rep X c σ h) {Z : Addr → Prop} (E : Ext c σ h c' σ' h' Z) (hz : ∀ a, Z a → c.M a) (hD : ¬ Z D) : Acc X c' σ' h' env D outs := by
  obtain ⟨vs, k, e1, e2⟩ := a.at_
  exact ⟨⟨vs, k, E.keep _ _ e1 a.W hD, IsVs.mono (Ext.pres R hz E) e2⟩, E.m2 _ a.M a.W, fun w => (E.wr _ w).elim a.W fun z => Live.no ⟨_, e1⟩ z, a.fa⟩

theorem testsM_false (env : Env) (es : List Expr) : (forIn es false fun c r => if r = true then do let ok ← isTrue c env (eval c env); pure (ForInStep.yield ok) else pure (ForInStep.yield r) : Sem Bool) = pure false := by
  induction es with
  | nil => rfl
  | cons e es ih => rw [List.forIn_cons]; exact ih
theorem tests_ok {f : Expr → St → Bool × St → Prop} (hf : ∀ {e σ r}, f e σ r → TrOk X n sc e ls σ r.1 r.2) {es : List Expr} {σ : St} {r : Bool × St} (h : testsF f es σ r) :
    ∀ (c : Cfg) (s : Shared) (A : Around) (E : Value → Shared → Prop) (env : Env) (Q : Bool → Shared → Prop), At X n sc ls σ c A env s.heap →
      (∀ c' h' tk, Rep X c' r.2 h' → Ext c σ s.heap c' r.2 h' NoZ → Q r.1 { s with heap := h', toks := tk }) → wpAny (model X.prog X.w) A (testsM env es) Q E s := by
  induction h with
  | nil => exact fun c s A E env Q a k => wpAny_pure (k c s.heap s.toks a.rep Ext.refl)
  | on hx _ ih =>
    intro c s A E env Q a k
    unfold testsM
    rw [List.forIn_cons]
    refine wpAny_bind (wpAny_bind (hf hx c s A E env _ a fun c1 h1 t1 R1 E1 => wpAny_pure ?_))
    exact ih c1 _ A E env Q (a.next R1 E1) fun c2 h2 t2 R2 E2 => k c2 h2 t2 R2 (Ext.trans a.rep E1 E2)
  | off hx =>
    intro c s A E env Q a k
    unfold testsM
    rw [List.forIn_cons]
    refine wpAny_bind (wpAny_bind (hf hx c s A E env _ a fun c1 h1 t1 R1 E1 => wpAny_pure ?_))
    dsimp only
    rw [testsM_false]
    exact wpAny_pure (k c1 h1 t1 R1 E1)
end
end Lm
end
section
open PySem PySem.W PyProof.Rows
set_option Elab.async false
set_option autoImplicit false
set_option linter.unusedVariables false
set_option linter.unusedSectionVars false
set_option linter.unusedSimpArgs false
set_option tactic.hygienic false
namespace Lm
/-- one turn: from the item to the comprehension's list -/
noncomputable def TnOk (X : Cx) (n : Nat) (sc : Scope) (elt : Expr) (gens : List Comprehension) (scope : Scope) (pos : Pos) (depth : Nat) (g : Comprehension) (x : PV) (ls : Ls) (σ : St) (r : List PV × Ls × St) : Prop :=
  ∀ (c : Cfg) (s : Shared) (A : Around) (E : Value → Shared → Prop) (env : Env) (D : Addr) (outs : List PV) (v : Value) (Q : Shared → Prop), At X n sc ls σ c A env s.heap → Acc X c σ s.heap env D outs → IsV X c s.heap x v → outs.length + r.1.length ≤ 1000000 →
    (∀ c' h' tk, Rep X c' r.2.2 h' → Ext c σ s.heap c' r.2.2 h' (ZC env D) → Fok X c' r.2.2 h' env r.2.1 → Acc X c' r.2.2 h' env D (outs ++ r.1) → Q { s with heap := h', toks := tk }) →
    wpAny (model X.prog X.w) A (assign g.target env v) (fun _ s3 => wpAny (model X.prog X.w) A (testsM env g.ifs) (fun ok s4 =>
      if ok = true then CTail (model X.prog X.w) A E elt gens scope pos depth (.ref D) env Q s4 else Q s4) E s3) E s
noncomputable def ItOk (X : Cx) (n : Nat) (sc : Scope) (e : Expr) (ls : Ls) (σ : St) (l : List PV) (loc : Option Loc) (σ1 : St) : Prop :=
  (∀ env x, foldedSetIterable e env x = pure x) ∧ ∀ (c : Cfg) (s : Shared) (A : Around) (E : Value → Shared → Prop) (env : Env) (Q : Value → Shared → Prop), At X n sc ls σ c A env s.heap →
      (∀ c' h' tk oI, Rep X c' σ1 h' → Ext c σ s.heap c' σ1 h' NoZ → Src X A c' σ1 h' (h'.push oI) h'.objs.size l loc → Q (.ref h'.objs.size) { s with heap := h'.push oI, toks := tk }) → wpAny (model X.prog X.w) A (eval e env) (fun x s1 => wpAny (model X.prog X.w) A (pyIter x) Q E s1) E s

section
variable {X : Cx} {tb : Tab} {n : Nat} {sc : Scope} {ls : Ls} {σ σ' σ1 σ2 σ3 : St} {c c' : Cfg} {A : Around} {env : Env} {s : Shared} {E : Value → Shared → Prop} {p q u : PV} {v : Value} {h h' : Heap} {I D : Addr}

theorem ZC.M (F : Fok X c σ h env ls) {outs : List PV} (a : Acc X c σ h env D outs) {b : Addr} (z : ZC env D b) : c.M b := by
  rcases z with rfl | rfl
  · exact (F.fa _ (.inl rfl)).1
  · exact a.M

theorem Acc.doneI {outs : List PV} (a : Acc X c σ h env D outs) (hM : c.M I) (hk : ∀ b o, b ≠ I → h.get? b = some o → h'.get? b = some o) (hD : D ≠ I) : Acc X (c.drop I) σ h' env D outs := by
  obtain ⟨vs, k, e1, e2⟩ := a.at_
  exact ⟨⟨vs, k, hk _ _ hD e1, IsVs.mono (show Pres c h (c.drop I) h' from ⟨fun x o' ex nx => ⟨hk x o' (fun z => nx (z ▸ hM)) ex, fun q => nx q.1⟩, fun _ _ e => e⟩) e2⟩, ⟨a.M, hD⟩, a.W, a.fa⟩

theorem comp_turns {elt : Expr} {gens : List Comprehension} {scope : Scope} {pos : Pos} {depth : Nat} {g : Comprehension} (hg : gens[depth]? = some g) (ha : g.is_async = 0) (hn : ∀ g', gens[depth + 1]? = some g' → g'.is_async = 0)
    {loc : Option Loc} {turnF : PV → Ls → St → List PV × Ls × St → Prop} {σ₀ : St} (hturn : ∀ {x ls σ r}, turnF x ls σ r → TnOk X n sc elt gens scope pos depth g x ls σ r)
    {l : List PV} {fp : List Addr} {P : Nat → Value → Prop} {Sx : Nat → Heap → Prop} {c₁ : Cfg} {h₁ : Heap} {r : List PV × Ls × St} {R : Result → Shared → Prop} {c0 : Cfg} {σ0 : St} {s : Shared} {h0 : Heap} (R0 : Rep X c0 σ0 h0) (room : Room A n) (scp : env.scope = sc) (hI0 : h0.get? I = none)
    (hIF : ∀ b, Fa env b → b ≠ I) (hDI : D ≠ I) {outs : List PV} (hsz : outs.length + r.1.length ≤ 1000000)
    (k : ∀ c' h' tk, Rep X c' r.2.2 h' → Ext c0 σ0 h0 c' r.2.2 h' (ZC env D) → Fok X c' r.2.2 h' env r.2.1 → Acc X c' r.2.2 h' env D (outs ++ r.1) → R (.ok .next) { s with heap := h', toks := tk }) {ls : Ls} {σ : St} {c : Cfg} {h : Heap} {tk : Nat}
    (hl : compF loc turnF σ₀ l ls σ r) (Rp : Rep X c σ h) (Ex : Ext c0 σ0 h0 c σ h (fun a => ZC env D a ∨ a = I)) (F : Fok X c σ h env ls) (ac : Acc X c σ h env D outs) (L : Lp X A l loc σ₀ I fp P Sx c₁ h₁ 0 c σ h) :
    codeAny (model X.prog X.w) A (.compLoop (.ListComp elt gens scope pos) depth (.ref I) (.ref D) env) R { s with heap := h, toks := tk } := by
  have hZI : ¬ ZC env D I := fun z => z.elim (fun e => hIF _ (.inl rfl) e.symm) fun e => hDI e.symm
  let Inv : Nat → Shared → Prop := fun m s' => ∃ xs i ls' σ' c' h' tk' outs' r', s' = { s with heap := h', toks := tk' } ∧ m = xs.length ∧ l.drop i = xs ∧ compF loc turnF σ₀ xs ls' σ' r' ∧ outs' ++ r'.1 = outs ++ r.1 ∧ r'.2 = r.2 ∧ Rep X c' σ' h' ∧ Ext c0 σ0 h0 c' σ' h' (fun a => ZC env D a ∨ a = I) ∧ Fok X c' σ' h' env ls' ∧ Acc X c' σ' h' env D outs' ∧ Lp X A l loc σ₀ I fp P Sx c₁ h₁ i c' σ' h'
  refine loop_open hg ha hn Inv ?_ l.length ⟨l, 0, ls, σ, c, h, tk, outs, r, rfl, rfl, rfl, hl, rfl, rfl, Rp, Ex, F, ac, L⟩
  rintro m s' E ⟨xs, i, ls', σ', c', h', tk', outs', r', rfl, rfl, hd, hlp, ho, hr, R1, E1, F1, ac1, L1⟩
  cases hlp with
  | nil =>
    have hi : l.length ≤ i := by simpa using hd
    refine L1.done (s := { s with heap := h', toks := tk' }) hi fun h2 tk2 hk => ?_
    obtain ⟨rl, rls, rσ⟩ := r
    cases hr
    simp only [List.append_nil] at ho
    subst ho
    exact k _ h2 tk2 (R1.doneI L1.M L1.W hk) (Ext.doneI R0 E1 hI0 hk) (F1.doneI L1.M hk hIF) (ac1.doneI L1.M hk hDI)
  | @cons x xs ps qs _ l1 _ _ s1 y hy hs hw hz =>
    have hx : l[i]? = some x := by
      have := congrArg (fun l => l[0]?) hd
      simpa using this
    refine L1.item (s := { s with heap := h', toks := tk' }) R1 hx fun v h2 tk2 hv L2 R2 E2 => ?_
    have zI : ∀ a, a = I → c'.M a := fun a e => e ▸ L1.M
    have F2 : Fok X c' σ' h2 env ls' := F1.ext R1 zI (fun a f e => hIF a f e) E2
    have ac2 : Acc X c' σ' h2 env D outs' := ac1.ext R1 E2 zI hDI
    refine own_tuple (h := h2) (L2.lv _ _ L2.st) ?_
    have hl2 := congrArg List.length ho
    simp only [List.length_append] at hl2
    have post : ∀ c3 h3 tk3, Rep X c3 s1 h3 → Ext c' σ' h2 c3 s1 h3 (ZC env D) → Fok X c3 s1 h3 env l1 → Acc X c3 s1 h3 env D (outs' ++ ps) →
        ∃ m, m < (x :: xs).length ∧ Inv m ({ s with heap := h3, toks := tk3 } : Shared) := fun c3 h3 tk3 R3 E3 F3 ac3 =>
      ⟨_, Nat.lt_succ_self _, xs, i + 1, _, _, c3, h3, tk3, outs' ++ ps, (qs, y), rfl, rfl, by rw [← List.drop_drop, hd]; rfl, hz, by rw [← ho, List.append_assoc], hr, R3,
        Ext.trans R0 E1 (Ext.trans R1 (E2.weaken fun a e => .inr e) (E3.weaken fun a e => .inl e)), F3.sub hw, ac3, L2.step R2 E3 (fun a f => f.M F2 ac2) hZI hs⟩
    exact hturn hy c' { s with heap := h2, toks := tk2 } A E env D outs' v _ ⟨room, scp, R2, F2⟩ ac2 hv (show outs'.length + ps.length ≤ 1000000 by lia) post

/-- a whole walk of a clause, from the fresh iterator on -/
theorem comp_walk {elt : Expr} {gens : List Comprehension} {scope : Scope} {pos : Pos} {depth : Nat} {g : Comprehension} (hg : gens[depth]? = some g) (ha : g.is_async = 0) (hn : ∀ g', gens[depth + 1]? = some g' → g'.is_async = 0)
    {loc : Option Loc} {turnF : PV → Ls → St → List PV × Ls × St → Prop} (hturn : ∀ {x ls σ r}, turnF x ls σ r → TnOk X n sc elt gens scope pos depth g x ls σ r)
    {l : List PV} {r : List PV × Ls × St} {R : Result → Shared → Prop} {s : Shared} {ls : Ls} (a0 : At X n sc ls σ c A env s.heap) {outs : List PV} (ac0 : Acc X c σ s.heap env D outs) (hsz : outs.length + r.1.length ≤ 1000000)
    (k : ∀ c' h' tk, Rep X c' r.2.2 h' → Ext c σ s.heap c' r.2.2 h' (ZC env D) → Fok X c' r.2.2 h' env r.2.1 → Acc X c' r.2.2 h' env D (outs ++ r.1) → R (.ok .next) { s with heap := h', toks := tk }) {tk : Nat} {oI : Obj}
    (hl : compF loc turnF σ l ls σ r) (Sr : Src X A c σ s.heap (s.heap.push oI) s.heap.objs.size l loc) :
    codeAny (model X.prog X.w) A (.compStart (.ListComp elt gens scope pos) depth (.ref s.heap.objs.size) (.ref D) env) R { s with heap := s.heap.push oI, toks := tk } := by
  obtain ⟨fp, P, Sx, L, R2, E2⟩ := Lp.start a0.rep oI Sr
  have hI0 : s.heap.get? s.heap.objs.size = none := get?_size s.heap
  have F2 : Fok X (c.mark (· = s.heap.objs.size)) σ (s.heap.push oI) env ls := a0.fok.ext a0.rep (fun _ f => f.elim) (fun _ _ f => f) E2
  have ac2 : Acc X (c.mark (· = s.heap.objs.size)) σ (s.heap.push oI) env D outs := ac0.ext a0.rep E2 (fun _ f => f.elim) fun f => f
  have go : codeAny (model X.prog X.w) A (.compLoop (.ListComp elt gens scope pos) depth (.ref s.heap.objs.size) (.ref D) env) R { s with heap := s.heap.push oI, toks := tk } :=
    comp_turns hg ha hn hturn a0.rep a0.room a0.scope hI0 (fun b f z => (a0.rep.up b (a0.fok.fa b f).1).no (z ▸ hI0)) (fun (z : D = _) => ac0.live.no (z ▸ hI0)) hsz k hl R2 (E2.weaken fun _ f => f.elim) F2 ac2 L
  exact start_open hg ha go fun E => L.w.self 0 _ _ _ L.st go

/-- what a turn does ahead of its value -/
theorem turn_head {x : PV} {ls1 : Ls} {g : Comprehension} {bt : Bool} (h1 : asgC sc g.target x ls = some ls1) (h2 : testsF (fun e => tr tb n sc e ls1) g.ifs σ (bt, σ1)) (S : Snd X tb n) {D : Addr} {outs : List PV} (a : At X n sc ls σ c A env s.heap) (ac : Acc X c σ s.heap env D outs) (hv : IsV X c s.heap x v) {QQ : Bool → Shared → Prop}
    (k : ∀ c2 h2 tk2, At X n sc ls1 σ1 c2 A env h2 → Ext c σ s.heap c2 σ1 h2 (ZC env D) → Acc X c2 σ1 h2 env D outs → QQ bt { s with heap := h2, toks := tk2 }) :
    wpAny (model X.prog X.w) A (assign g.target env v) (fun _ s3 => wpAny (model X.prog X.w) A (testsM env g.ifs) QQ E s3) E s := by
  refine asgC_ok h1 a hv fun h1' tk1 R1 E1 F1 => ?_
  have zl : ∀ b, b = env.locals → c.M b := fun b e => e ▸ (a.fok.fa _ (.inl rfl)).1
  have ac1 : Acc X c σ h1' env D outs := ac.ext a.rep E1 zl fun e => ac.fa (.inl e)
  have a1 : At X n sc ls1 σ c A env h1' := a.step R1 F1
  refine tests_ok (fun h => S.tr h) h2 c { s with heap := h1', toks := tk1 } A E env _ a1 fun c2 h2' tk2 R2 E2 => ?_
  exact k c2 h2' tk2 (a1.next R2 E2) (Ext.trans a.rep (E1.weaken fun _ e => .inl e) (E2.weaken fun _ f => f.elim)) (ac1.ext R1 E2 (fun _ f => f.elim) fun f => f)

theorem turn_no {elt : Expr} {gens : List Comprehension} {scope : Scope} {pos : Pos} {depth : Nat} {g : Comprehension} {x : PV} {ls1 : Ls} (h1 : asgC sc g.target x ls = some ls1) (h2 : testsF (fun e => tr tb n sc e ls1) g.ifs σ (false, σ1)) (S : Snd X tb n) :
    TnOk X (n + 1) sc elt gens scope pos depth g x ls σ ([], ls1, σ1) := fun c s A E env D outs v Q a ac hv hsz k =>
  turn_head h1 h2 S (a.le (Nat.le_succ n)) ac hv fun c2 h2' tk2 a2 E2 ac2 => k c2 h2' tk2 a2.rep E2 a2.fok (by simpa using ac2)

/-- the turn of the innermost clause -/
theorem turn_last {elt : Expr} {gens : List Comprehension} {scope : Scope} {pos : Pos} {depth : Nat} {g : Comprehension} {x q : PV} {ls1 : Ls} (hg' : gens[depth + 1]? = none)
    (h1 : asgC sc g.target x ls = some ls1) (h2 : testsF (fun e => tr tb n sc e ls1) g.ifs σ (true, σ1)) (S : Snd X tb n) (h5 : ev tb n sc elt ls1 σ1 (q, σ2)) :
    TnOk X (n + 1) sc elt gens scope pos depth g x ls σ ([q], ls1, σ2) := fun c s A E env D outs v Q a ac hv hsz k => by
  refine turn_head h1 h2 S (a.le (Nat.le_succ n)) ac hv fun c2 h2' tk2 a2 E02 ac2 => ?_
  simp only [if_true]
  unfold CTail
  rw [hg']
  refine S.ev h5 c2 { s with heap := h2', toks := tk2 } A E env _ a2 fun w c3 h3' tk3 R3 E3 v3 => ?_
  have ac3 : Acc X c3 σ2 h3' env D outs := ac2.ext a2.rep E3 (fun _ f => f.elim) fun f => f
  obtain ⟨vs, kk, e1, e2⟩ := ac3.at_
  have hlen := e2.length
  rw [Array.length_toList] at hlen
  have hO : outs.length + 1 ≤ 1000000 := hsz
  refine wpAny_list_append_plain ⟨kk, e1⟩ (fun h4' hl sb => ?_) (by rw [sizeLine_eq]; lia)
  obtain ⟨m', hl⟩ := hl
  have P := pres_turn ac3.M sb
  have E4 : ∀ {Z : Addr → Prop}, Z D → Ext c3 σ2 h3' c3 σ2 h4' Z := fun z => Ext.other R3 sb ⟨_, hl⟩ ac3.W z
  have F4 : Fok X c3 σ2 h4' env ls1 := (a2.next R3 E3).fok.ext R3 (Z := (· = D)) (fun _ e => e ▸ ac3.M) (fun b f e => ac3.fa (e ▸ f)) (E4 rfl)
  refine k c3 h4' tk3 (R3.other sb ⟨_, hl⟩ ac3.M ac3.W) (Ext.trans a.rep E02 (Ext.trans a2.rep (E3.weaken fun _ f => f.elim) (E4 (.inr rfl)))) F4 ⟨⟨_, m', hl, ?_⟩, ac3.M, ac3.W, ac3.fa⟩
  simpa using (IsVs.mono P e2).append (.cons (v3.mono P) .nil)

/-- the turn of a clause with another inside -/
theorem turn_deep {elt : Expr} {gens : List Comprehension} {scope : Scope} {pos : Pos} {depth : Nat} {g g2 : Comprehension} {x : PV} {ls1 : Ls} {r : List PV × Ls × St} (hg' : gens[depth + 1]? = some g2) (ha2 : g2.is_async = 0) (hn2 : ∀ g', gens[depth + 1 + 1]? = some g' → g'.is_async = 0) (S : Snd X tb n)
    (h1 : asgC sc g.target x ls = some ls1) (h2 : testsF (fun e => tr tb n sc e ls1) g.ifs σ (true, σ1)) {l : List PV} {loc : Option Loc} {turnF : PV → Ls → St → List PV × Ls × St → Prop} (hturn : ∀ {x ls σ r}, turnF x ls σ r → TnOk X n sc elt gens scope pos (depth + 1) g2 x ls σ r)
    (hit : ItOk X n sc g2.iter ls1 σ1 l loc σ2) (h6 : compF loc turnF σ2 l ls1 σ2 r) :
    TnOk X (n + 1) sc elt gens scope pos depth g x ls σ r := fun c s A E env D outs v Q a ac hv hsz k => by
  refine turn_head h1 h2 S (a.le (Nat.le_succ n)) ac hv fun c2 h2' tk2 a2 E02 ac2 => ?_
  simp only [if_true]
  unfold CTail
  rw [hg']
  refine ⟨hit.1 env, hit.2 c2 { s with heap := h2', toks := tk2 } A E env _ a2 fun c3 h3' tk3 oI R3 E3 Sr => ?_⟩
  refine comp_walk (s := { s with heap := h3', toks := tk3 }) hg' ha2 hn2 hturn (a2.next R3 E3) (ac2.ext a2.rep E3 (fun _ f => f.elim) fun f => f) hsz (fun c4 h4' tk4 R4 E4 F4 ac4 => ?_) h6 Sr
  exact k c4 h4' tk4 R4 (Ext.trans a.rep E02 (Ext.trans a2.rep (E3.weaken fun _ f => f.elim) E4)) F4 ac4
end
end Lm
end
section
open PySem PySem.W PyProof.Rows
set_option Elab.async false
set_option autoImplicit false
set_option linter.unusedVariables false
set_option linter.unusedSectionVars false
set_option linter.unusedSimpArgs false
set_option tactic.hygienic false
namespace Lm
section
variable {X : Cx} {tb : Tab} {n : Nat} {sc : Scope} {ls : Ls} {σ σ' σ1 σ2 σ3 : St} {c c' : Cfg} {A : Around} {env : Env} {s : Shared} {E : Value → Shared → Prop} {p q u : PV} {v : Value} {h h' : Heap} {I D : Addr}

noncomputable def clOf (env : Env) : List (Str × NameKind) → List (Str × Addr) → List (Str × Addr)
  | [], cs => cs
  | x :: r, cs => clOf env r (if x.2 = .free then (match env.cells.lookup x.1 with | some a => (x.1, a) :: cs | none => cs) else cs)

theorem clOf_mem {y : Str × Addr} : ∀ {l : List (Str × NameKind)} {cs : List (Str × Addr)}, y ∈ clOf env l cs ↔ y ∈ cs ∨ (∃ x ∈ l, x.2 = .free ∧ x.1 = y.1 ∧ env.cells.lookup x.1 = some y.2)
  | [], cs => by simp [clOf]
  | x :: r, cs => by
    unfold clOf
    rw [clOf_mem]
    by_cases hx : x.2 = .free
    · simp only [hx, if_true]
      cases hl : env.cells.lookup x.1 with
      | none =>
        constructor
        · rintro (h | ⟨z, h1, h2⟩)
          · exact .inl h
          · exact .inr ⟨z, List.mem_cons_of_mem _ h1, h2⟩
        · rintro (h | ⟨z, h1, h2, h3, h4⟩)
          · exact .inl h
          · rcases List.mem_cons.mp h1 with rfl | h1
            · rw [hl] at h4; cases h4
            · exact .inr ⟨z, h1, h2, h3, h4⟩
      | some a =>
        constructor
        · rintro (h | ⟨z, h1, h2⟩)
          · rcases List.mem_cons.mp h with rfl | h
            · exact .inr ⟨x, List.mem_cons_self, hx, rfl, hl⟩
            · exact .inl h
          · exact .inr ⟨z, List.mem_cons_of_mem _ h1, h2⟩
        · rintro (h | ⟨z, h1, h2, h3, h4⟩)
          · exact .inl (List.mem_cons_of_mem _ h)
          · rcases List.mem_cons.mp h1 with rfl | h1
            · rw [hl] at h4; cases h4
              refine .inl ?_
              rw [h3]; exact List.mem_cons_self
            · exact .inr ⟨z, h1, h2, h3, h4⟩
    · simp only [hx, if_false]
      constructor
      · rintro (h | ⟨z, h1, h2⟩)
        · exact .inl h
        · exact .inr ⟨z, List.mem_cons_of_mem _ h1, h2⟩
      · rintro (h | ⟨z, h1, h2, h3, h4⟩)
        · exact .inl h
        · rcases List.mem_cons.mp h1 with rfl | h1
          · exact absurd h2 hx
          · exact .inr ⟨z, h1, h2, h3, h4⟩

theorem clOf_pair : ∀ {l : List (Str × NameKind)} {cs : List (Str × Addr)}, (l.map (·.1)).Nodup → (∀ y ∈ cs, y.1 ∉ l.map (·.1)) → cs.Pairwise (fun x y => x.1 ≠ y.1) → (clOf env l cs).Pairwise fun x y => x.1 ≠ y.1
  | [], cs, _, _, h => h
  | x :: r, cs, hn, hd, h => by
    unfold clOf
    rw [List.map_cons, List.nodup_cons] at hn
    have hd' : ∀ y ∈ cs, y.1 ∉ r.map (·.1) := fun y hy q => hd y hy (List.mem_cons_of_mem _ q)
    refine clOf_pair hn.2 ?_ ?_
    · intro y hy
      split at hy
      · split at hy
        · rcases List.mem_cons.mp hy with rfl | hy
          · exact hn.1
          · exact hd' y hy
        · exact hd' y hy
      · exact hd' y hy
    · split
      · split
        · refine List.pairwise_cons.mpr ⟨fun y hy q => hd y hy ?_, h⟩
          rw [← q]; exact List.mem_cons_self
        · exact h
      · exact h

theorem closure_go : ∀ (l : List (Str × NameKind)) (cs : List (Str × Addr)), (∀ x ∈ l, x.2 = .free → (env.cells.lookup x.1).isSome = true) →
    (forIn l cs fun x cs => do if x.2 == .free then (do let a ← cellOf env x.1; pure (ForInStep.yield ((x.1, a) :: cs))) else pure (ForInStep.yield cs) : Sem (List (Str × Addr))) = pure (clOf env l cs)
  | [], cs, _ => rfl
  | x :: r, cs, hf => by
    rw [List.forIn_cons]
    unfold clOf
    have hr := fun cs => closure_go r cs fun y hy => hf y (List.mem_cons_of_mem _ hy)
    by_cases hx : x.2 = .free
    · have hb : (x.2 == NameKind.free) = true := by rw [hx]; rfl
      simp only [hx, if_true]
      obtain ⟨a, ha⟩ := Option.isSome_iff_exists.mp (hf x List.mem_cons_self hx)
      have hc : cellOf env x.1 = pure a := by unfold cellOf; rw [ha]
      simp only [hc, ha]
      first | exact hr _ | skip
    · have hb : (x.2 == NameKind.free) = false := by simpa using hx
      simp only [hb, Bool.false_eq_true, if_false, hx]
      exact hr _
theorem closure_eq {scope : Scope} (hf : ∀ x ∈ scope.names, x.2 = .free → (env.cells.lookup x.1).isSome = true) : closureFor scope env = pure (clOf env scope.names []) := by
  rw [← closure_go scope.names [] hf]
  unfold closureFor
  first
    | rfl
    | simp only [bind_pure]

theorem lookup_map_snd {β : Type} (f : Str → β → β) (x : Str) : ∀ l : List (Str × β), (l.map fun y => (y.1, f y.1 y.2)).lookup x = (l.lookup x).map (f x)
  | [] => rfl
  | y :: r => by
    rw [List.map_cons, List.lookup_cons, List.lookup_cons]
    cases hx : x == y.1 with
    | true => have := beq_iff_eq.mp hx; subst this; rfl
    | false => exact lookup_map_snd f x r
theorem lk_comp (scope sc : Scope) (x : Str) : (compScope scope sc).names.lookup x = (scope.names.lookup x).map fun k => if (k == .free && sc.kind == .function && sc.names.lookup x == some .cell) then .cell else k := by
  refine Eq.trans ?_ (lookup_map_snd (β := NameKind) (fun x k => if (k == .free && sc.kind == .function && sc.names.lookup x == some .cell) then .cell else k) x scope.names)
  unfold compScope
  dsimp only
  congr 1
  refine List.map_congr_left fun y _ => ?_
  obtain ⟨m, k⟩ := y
  show (if _ then (m, NameKind.cell) else (m, k)) = (m, if _ then NameKind.cell else k)
  split <;> rfl

theorem getV_comp (scope : Scope) (x : Str) : ∀ ls : Ls, getV x (compLs scope ls) = if scope.names.lookup x = some .free then getV x ls else none
  | [] => by simp [compLs, getV]
  | e :: r => by
    have ih := getV_comp scope x r
    unfold compLs at *
    rw [List.filter_cons]
    by_cases hx : e.1 = x
    · subst hx
      by_cases hf : scope.names.lookup e.1 = some .free
      · simp [hf, getV]
      · have hb : (scope.names.lookup e.1 == some .free) = false := by simpa using hf
        rw [hb]
        simp only [Bool.false_eq_true, if_false, hf]
        rw [ih]; simp [hf]
    · have hb : ∀ b : Bool, getV x (if b = true then e :: r.filter (fun e => scope.names.lookup e.1 == some .free) else r.filter (fun e => scope.names.lookup e.1 == some .free)) = getV x (r.filter fun e => scope.names.lookup e.1 == some .free) := fun b => by
        cases b with
        | true => show getV x (e :: _) = _; rw [getV, if_neg hx]
        | false => rfl
      rw [hb, ih]
      simp [getV, hx]

structure CompOk (scope sc : Scope) : Prop where
  kind : scope.kind = .function
  nodup : (scope.names.map (·.1)).Nodup
  nocell : ∀ x ∈ scope.names, x.2 ≠ .cell
  free : ∀ x ∈ scope.names, x.2 = .free → sc.names.lookup x.1 = some .cell ∨ sc.names.lookup x.1 = some .free
theorem compOk_of {scope : Scope} (e : compOk scope sc = true) : CompOk scope sc := by
  unfold compOk at e
  simp only [Bool.and_eq_true, beq_iff_eq, decide_eq_true_eq, List.all_eq_true, bne_iff_ne, ne_eq, Bool.or_eq_true] at e
  refine ⟨e.1.1, e.1.2, fun x hx => (e.2 x hx).1, fun x hx hf => ?_⟩
  rcases (e.2 x hx).2 with (h | h) | h
  · exact absurd hf h
  · exact .inl h
  · exact .inr h
theorem lookup_mem_nodup {β : Type} : ∀ {l : List (Str × β)} {x : Str × β}, (l.map (·.1)).Nodup → x ∈ l → l.lookup x.1 = some x.2
  | y :: r, x, hn, hx => by
    rw [List.map_cons, List.nodup_cons] at hn
    rcases List.mem_cons.mp hx with rfl | hx
    · obtain ⟨k, w⟩ := x
      rw [List.lookup_cons_self]
    · have : (x.1 == y.1) = false := by
        rw [beq_eq_false_iff_ne]
        exact fun e => hn.1 (e ▸ List.mem_map_of_mem (f := (·.1)) hx)
      rw [List.lookup_cons, this]
      exact lookup_mem_nodup hn.2 hx
theorem lookup_some_of_mem {β : Type} {x : Str} {b : β} : ∀ {l : List (Str × β)}, (x, b) ∈ l → (l.lookup x).isSome = true
  | y :: r, hx => by
    rw [List.lookup_cons]
    cases hb : x == y.1 with
    | true => rfl
    | false =>
      rcases List.mem_cons.mp hx with rfl | hx
      · simp at hb
      · exact lookup_some_of_mem hx

set_option tactic.hygienic true in
/-- the frame of a comprehension -/
theorem comp_frame {scope : Scope} (K : CompOk scope sc) (F : Fok X c σ h env ls) (hs : env.scope = sc) {C : Addr} (R : Rep X c σ h) (hM : c.M C) (hW : ¬ Wr c σ C) (hC : h.Ns C fun _ => none) :
    Fok X c σ h (compEnvC scope (clOf env scope.names []) C env) (compLs scope ls) := by
  have hsc : (compEnvC scope (clOf env scope.names []) C env).scope = compScope scope sc := by rw [← hs]; rfl
  have hk : ∀ x, (compEnvC scope (clOf env scope.names []) C env).kindOf x = (scope.names.lookup x).map fun k => if (k == .free && sc.kind == .function && sc.names.lookup x == some .cell) then .cell else k := fun x => by
    unfold Env.kindOf; rw [hsc]; exact lk_comp scope sc x
  have hcl : ∀ x a, (clOf env scope.names []).lookup x = some a → env.cells.lookup x = some a ∧ (x, NameKind.free) ∈ scope.names := fun x a e => by
    rcases clOf_mem.mp (mem_of_lookup e) with h | ⟨z, h1, h2, h3, h4⟩
    · cases h
    · dsimp only at h3 h4; subst h3; exact ⟨h4, by rw [← h2]; exact h1⟩
  have hfree : ∀ x, scope.names.lookup x = some .free → ∃ a, (clOf env scope.names []).lookup x = some a ∧ env.cells.lookup x = some a := fun x e => by
    have hm := mem_of_lookup e
    have h1 := K.free _ hm rfl
    have h2 := F.has x (by unfold Env.kindOf; rw [hs]; exact h1)
    obtain ⟨a, ha⟩ := Option.isSome_iff_exists.mp h2
    have hmem : (x, a) ∈ clOf env scope.names [] := clOf_mem.mpr (.inr ⟨_, hm, rfl, rfl, ha⟩)
    obtain ⟨b, hb⟩ := Option.isSome_iff_exists.mp (lookup_some_of_mem hmem)
    have := (hcl x b hb).1
    rw [ha] at this; cases this
    exact ⟨a, hb, ha⟩
  have hkf : ∀ x, (compEnvC scope (clOf env scope.names []) C env).kindOf x = some .cell ∨ (compEnvC scope (clOf env scope.names []) C env).kindOf x = some .free → scope.names.lookup x = some .free := fun x e => by
    rw [hk] at e
    cases hl : scope.names.lookup x with
    | none => rw [hl] at e; simp at e
    | some k =>
      rw [hl] at e
      have hnc := K.nocell _ (mem_of_lookup hl)
      dsimp only at hnc
      simp only [Option.map_some, Option.some.injEq] at e
      split at e
      · rename_i hc; simp at hc; rw [hc.1.1]
      · rcases e with rfl | rfl
        · exact absurd rfl hnc
        · rfl
  refine ⟨?_, F.glob, F.bul, fun a q => ?_, ⟨_, hC⟩, fun x a q => ?_, ?_, fun x e => ?_, fun k p e g => ?_⟩
  · rw [hsc]; exact K.kind
  · rcases q with rfl | ⟨x, q⟩
    · exact ⟨hM, hW⟩
    · exact F.fa a (.inr ⟨x, (hcl x a q).1⟩)
  · exact F.cells x a (hcl x a q).1
  · have hp : (clOf env scope.names []).Pairwise fun x y => x.1 ≠ y.1 := clOf_pair K.nodup (by simp) .nil
    refine hp.imp_of_mem fun {x y} hx hy hne e => hne ?_
    have e1 : env.cells.lookup x.1 = some x.2 := by
      rcases clOf_mem.mp hx with h | ⟨z, h1, h2, h3, h4⟩
      · cases h
      · rw [← h3]; exact h4
    have e2 : env.cells.lookup y.1 = some y.2 := by
      rcases clOf_mem.mp hy with h | ⟨z, h1, h2, h3, h4⟩
      · cases h
      · rw [← h3]; exact h4
    rw [e] at e1
    exact name_of_addr F.apart (mem_of_lookup e1) (mem_of_lookup e2)
  · obtain ⟨a, h1, _⟩ := hfree x (hkf x e)
    show ((clOf env scope.names []).lookup x).isSome = true
    rw [h1]; rfl
  · rw [getV_comp] at e
    split at e <;> try cases e
    rename_i hf
    obtain ⟨a, h1, h2⟩ := hfree k hf
    have hko := K.free _ (mem_of_lookup hf) rfl
    dsimp only at hko
    have hko' : env.kindOf k = some .cell ∨ env.kindOf k = some .free := by unfold Env.kindOf; rw [hs]; exact hko
    obtain ⟨v, e1, e2⟩ := F.vars k p e (by rcases hko' with h | h <;> rw [h] <;> rfl)
    refine ⟨v, .inr ⟨?_, a, h1, ?_⟩, e2⟩
    · rw [hk, hf]
      simp only [Option.map_some, Option.some.injEq]
      split
      · exact .inl rfl
      · exact .inr rfl
    · rcases e1 with ⟨f1, _⟩ | ⟨_, b, f2, f3⟩
      · rcases hko' with h | h <;> rw [h] at f1 <;> cases f1
      · rw [h2] at f2; cases f2; exact f3
end
end Lm
end
section
open PySem PySem.W PyProof.Rows
set_option Elab.async false
set_option autoImplicit false
set_option linter.unusedVariables false
set_option linter.unusedSectionVars false
set_option linter.unusedSimpArgs false
set_option tactic.hygienic false
namespace Lm
section
variable {X : Cx} {tb : Tab} {n : Nat} {sc : Scope} {ls : Ls} {σ σ' σ1 σ2 σ3 : St} {c c' : Cfg} {A : Around} {env : Env} {s : Shared} {E : Value → Shared → Prop} {p q u : PV} {v : Value} {h h' : Heap} {I D : Addr}

/-- an address that no number names is given up -/
theorem Ext.giveUp {c₀ : Cfg} {σ₀ : St} {h₀ : Heap} {Z : Addr → Prop} (R₀ : Rep X c₀ σ₀ h₀) (E : Ext c₀ σ₀ h₀ c σ h Z) (hD : h₀.get? D = none) : Ext c₀ σ₀ h₀ (c.drop D) σ h Z :=
  Ext.doneI R₀ (E.weaken fun _ z => .inl z) hD fun _ _ _ e => e
theorem Rep.giveUp (R : Rep X c σ h) (hM : c.M D) (hW : ¬ Wr c σ D) : Rep X (c.drop D) σ h := R.doneI hM hW fun _ _ _ e => e

theorem comp_core {scope : Scope} {elt : Expr} {g : Comprehension} {gs : List Comprehension} {pos : Pos} (K : CompOk scope sc) (a : At X n sc ls σ c A env s.heap) (ha : g.is_async = 0) (hn : ∀ g', (g :: gs)[0 + 1]? = some g' → g'.is_async = 0)
    {l : List PV} {loc : Option Loc} (hit : ItOk X n sc g.iter ls σ l loc σ1) {turnF : PV → Ls → St → List PV × Ls × St → Prop} (hturn : ∀ {x ls σ r}, turnF x ls σ r → TnOk X n (compScope scope sc) elt (g :: gs) scope pos 0 g x ls σ r)
    {r : List PV × Ls × St} (hl : compF loc turnF σ1 l (compLs scope ls) σ1 r) (hsz : r.1.length ≤ 1000000) {RR : Value → Addr → Result → Shared → Prop}
    (k : ∀ D C c' h' tk, Rep X c' r.2.2 h' → Ext c σ s.heap c' r.2.2 h' NoZ → IsV X c' h' (.lst r.1) (.ref D) → (∃ m, h'.Ns C m) → s.heap.get? C = none → C ≠ D → c'.M C → ¬ Wr c' r.2.2 C → RR (.ref D) C (.ok .next) { s with heap := h', toks := tk }) :
    wpAny (model X.prog X.w) A (eval g.iter env) (fun x s₁ => wpAny (model X.prog X.w) A (pyIter x) (fun it s₂ => wpAny (model X.prog X.w) A (newList []) (fun acc s₃ =>
      wpAny (model X.prog X.w) A (newFunctionEnv scope env.globals (clOf env scope.names []) [] env.qual none .none (some env)) (fun cenv s₄ =>
        codeAny (model X.prog X.w) A (.compStart (.ListComp elt (g :: gs) scope pos) 0 it acc { cenv with scope := relabel scope env }) (RR acc cenv.locals) s₄) E s₃) E s₂) E s₁) E s := by
  refine hit.2 c s A E env _ a fun c1 h1 tk1 oI R1 E1 Sr => ?_
  obtain ⟨fp, P, Sx, L, R2, E2⟩ := Lp.start R1 oI Sr
  have a1 := a.next R1 E1
  have F2 : Fok X (c1.mark (· = h1.objs.size)) σ1 (h1.push oI) env ls := a1.fok.ext R1 (fun _ f => f.elim) (fun _ _ f => f) E2
  have hI1 : h1.get? h1.objs.size = none := get?_size h1
  generalize hI : h1.objs.size = I at *
  generalize hc2 : c1.mark (· = I) = c2 at *
  generalize hh2 : h1.push oI = h2 at *
  refine wpAny_newObj_type (wpAny_newFunctionEnv K.nocell (by intro y hy; simp at hy) (fun h3 hns hsb => ?_) K.kind)
  dsimp only at hns hsb ⊢
  have hD0 : h2.get? h2.objs.size = none := get?_size h2
  have hDC : h2.objs.size ≠ (h2.push { cls := .type "list", dict := none, data := .seq ([] : List Value).toArray }).objs.size := by rw [Heap.size_push]; exact Nat.ne_of_lt (Nat.lt_succ_self _)
  have hC0 : h2.get? (h2.push { cls := .type "list", dict := none, data := .seq ([] : List Value).toArray }).objs.size = none := by
    have := get?_size (h2.push { cls := .type "list", dict := none, data := .seq ([] : List Value).toArray })
    exact (Gr.push _).gone this
  have hDat : h3.get? h2.objs.size = some (lstObj #[] 0) := by
    have := hsb.extBut h2.objs.size (lstObj #[] 0) hDC (Heap.get?_push_of_some _ (Heap.get?_push_size _ rfl))
    exact this
  have G : Gr h2 h3 := fun b o e => hsb.extBut b o (fun z => by rw [z, hC0] at e; cases e) (Heap.get?_push_of_some _ (Heap.get?_push_of_some _ e))
  generalize hC : (h2.push { cls := .type "list", dict := none, data := .seq ([] : List Value).toArray }).objs.size = C at *
  generalize hD : h2.objs.size = D at *
  have lC : Live h3 C := by obtain ⟨o, es, ep, ho, _⟩ := hns; exact ⟨_, ho⟩
  have hS : ∀ b, (b = D ∨ b = C) → h2.get? b = none := fun b e => by rcases e with rfl | rfl <;> assumption
  have hS' : ∀ b, (b = D ∨ b = C) → Live h3 b := fun b e => by
    rcases e with rfl | rfl
    · exact ⟨_, hDat⟩
    · exact lC
  have R3 : Rep X (c2.mark (fun b => b = D ∨ b = C)) σ1 h3 := R2.mark G hS hS'
  have E3 : Ext c2 σ1 h2 (c2.mark (fun b => b = D ∨ b = C)) σ1 h3 NoZ := Ext.mark G hS
  have L3 := L.step R2 E3 (fun _ f => f.elim) (fun f => f) L.v
  have F3 := F2.ext R2 (fun _ f => f.elim) (fun _ _ f => f) E3
  have nW : ∀ b, h2.get? b = none → ¬ Wr (c2.mark (fun b => b = D ∨ b = C)) σ1 b := fun b e w => by
    obtain ⟨p, o, x, e1, e2⟩ := w
    exact (R2.up b (R2.wrM ⟨p, o, x, e1, e2⟩)).no e
  generalize hc3 : c2.mark (fun b => b = D ∨ b = C) = c3 at *
  have MC : c3.M C := by rw [← hc3]; exact .inr (.inr rfl)
  have MD : c3.M D := by rw [← hc3]; exact .inr (.inl rfl)
  have hns0 : h3.Ns C fun _ => none := hns
  have Fc := comp_frame K F3 a.scope R3 MC (nW C hC0) hns0
  have faC : ∀ b, Fa (compEnvC scope (clOf env scope.names []) C env) b → b = C ∨ Fa env b := fun b q => by
    rcases q with rfl | ⟨x, q⟩
    · exact .inl rfl
    · refine .inr (.inr ⟨x, ?_⟩)
      rcases clOf_mem.mp (mem_of_lookup q) with h | ⟨z, h1, h2, h3, h4⟩
      · cases h
      · dsimp only at h3 h4; subst h3; exact h4
  have live2 : ∀ b, Fa env b → Live h2 b := fun b f => R2.up b (F2.fa b f).1
  have hI2 : Live h2 I := by
    obtain ⟨o, m, e, _⟩ := L.lv 0 _ L.st; exact ⟨o, e⟩
  have ac : Acc X c3 σ1 h3 (compEnvC scope (clOf env scope.names []) C env) D [] := ⟨⟨#[], 0, hDat, .nil⟩, MD, nW D hD0, fun f => by
    rcases faC D f with e | f
    · exact hDC e
    · exact (live2 D f).no hD0⟩
  have hIs : s.heap.get? I = none := E1.gone hI1
  have gone2 : ∀ b, h2.get? b = none → s.heap.get? b = none := fun b e => E1.gone (E2.gone e)
  have E03 : Ext c σ s.heap c3 σ1 h3 NoZ := Ext.trans a.rep E1 (Ext.trans R1 E2 E3)
  have hscope : (compEnvC scope (clOf env scope.names []) C env).scope = compScope scope sc := by rw [← a.scope]; rfl
  have go : codeAny (model X.prog X.w) A (.compLoop (.ListComp elt (g :: gs) scope pos) 0 (.ref I) (.ref D) (compEnvC scope (clOf env scope.names []) C env)) (RR (.ref D) C)
      { s with heap := h3, toks := tk1 + ([] : List (Str × Value)).length } := by
    refine comp_turns (c0 := c) (σ0 := σ) (h0 := s.heap) (outs := []) (n := n) (sc := compScope scope sc) (l := l) (loc := loc) (turnF := turnF) (σ₀ := σ1) (r := r) rfl ha hn hturn a.rep a.room hscope hIs (fun b f z => ?_) (fun z => ?_) (by simpa using hsz) (fun c' h' tk R' E' F' ac' => ?_) hl R3 (E03.weaken fun _ f => f.elim) Fc ac L3
    · rcases faC b f with rfl | f
      · exact hI2.no (z ▸ hC0)
      · exact (a.rep.up b (a.fok.fa b f).1).no (z ▸ hIs)
    · exact hI2.no (z ▸ hD0)
    · have FaC := F'.fa C (.inl rfl)
      have R'' : Rep X (c'.drop D) r.2.2 h' := R'.giveUp ac'.M ac'.W
      have E'' : Ext c σ s.heap (c'.drop D) r.2.2 h' NoZ := Ext.giveUp a.rep (E'.fresh fun b z => by
        refine .inr (gone2 b ?_)
        rcases z with rfl | rfl
        · exact hC0
        · exact hD0) (gone2 D hD0)
      obtain ⟨vs, kk, e1, e2⟩ := ac'.at_
      refine k D C _ h' tk R'' E'' ?_ F'.ns (gone2 C hC0) (Ne.symm hDC) ⟨FaC.1, Ne.symm hDC⟩ FaC.2
      exact .mk D vs kk e1 (fun q => q.2 rfl) (IsVs.mono Pres.drop (by simpa using e2))
  exact start_open rfl ha go fun E => L3.w.self 0 _ _ _ L3.st go

theorem comp_none {D C : Addr} {c0 : Cfg} {σ0 : St} {h0 : Heap} {r : PV × St} {Q : Value → Shared → Prop} {c' : Cfg} {h' : Heap} {tk : Nat} (R0 : Rep X c0 σ0 h0) (R' : Rep X c' r.2 h') (E' : Ext c0 σ0 h0 c' r.2 h' NoZ) (hv : IsV X c' h' r.1 (.ref D)) (hn : ∃ m, h'.Ns C m) (hC : h0.get? C = none)
    (MC : c'.M C) (WC : ¬ Wr c' r.2 C) (k : ∀ c' h', Rep X c' r.2 h' → Ext c0 σ0 h0 c' r.2 h' NoZ → IsV X c' h' r.1 (.ref D) → Q (.ref D) { s with heap := h', toks := tk }) : compPost (model X.prog X.w) A E none Q (.ref D) C (.ok .next) { s with heap := h', toks := tk } := by
  obtain ⟨m, hm⟩ := hn
  refine ⟨m, hm, fun h'' sb => ?_⟩
  have hk : ∀ b o, b ≠ C → h'.get? b = some o → h''.get? b = some o := fun b o ne e => (sb.2 b ne).trans e
  exact k (c'.drop C) h'' (R'.doneI MC WC hk) (Ext.doneI R0 (E'.weaken fun _ f => f.elim) hC hk) (hv.mono (show Pres c' h' (c'.drop C) h'' from ⟨fun a o e n => ⟨hk a o (fun z => n (z ▸ MC)) e, fun q => n q.1⟩, fun _ _ e => e⟩))

theorem compOk_clos {scope : Scope} (K : CompOk scope sc) (F : Fok X c σ h env ls) (hs : env.scope = sc) : closureFor scope env = pure (clOf env scope.names []) := by
  refine closure_eq fun x hx hf => F.has x.1 ?_
  unfold Env.kindOf; rw [hs]; exact K.free x hx hf
theorem compOk_names {scope : Scope} (K : CompOk scope sc) : ∀ x ∈ scope.names, x.2 = .local → scope.names.lookup x.1 = some .local := fun x hx hl => by
  rw [lookup_mem_nodup K.nodup hx, hl]

theorem ev_comp {scope : Scope} {elt : Expr} {g : Comprehension} {gs : List Comprehension} {pos : Pos} (K : CompOk scope sc) (ha : g.is_async = 0) (hn : ∀ g', (g :: gs)[0 + 1]? = some g' → g'.is_async = 0)
    {l : List PV} {loc : Option Loc} (hit : ItOk X n sc g.iter ls σ l loc σ1) {turnF : PV → Ls → St → List PV × Ls × St → Prop} (hturn : ∀ {x ls σ r}, turnF x ls σ r → TnOk X n (compScope scope sc) elt (g :: gs) scope pos 0 g x ls σ r)
    {r : List PV × Ls × St} (hl : compF loc turnF σ1 l (compLs scope ls) σ1 r) (hsz : r.1.length ≤ 1000000) : EvOk X (n + 1) sc (.ListComp elt (g :: gs) scope pos) ls σ (.lst r.1) r.2.2 := fun c s A E env Q a k => by
  have a' := a.le (Nat.le_succ n)
  rw [eval_ListComp]
  obtain ⟨t, it, ifs, as⟩ := g
  cases ha
  refine wpAny_comprehension_free (use := none) rfl (hit.1 env) (compOk_clos K a.fok a.scope) K.kind (compOk_names K) (comp_core K a' rfl hn hit hturn hl hsz fun D C c' h' tk R' E' hv hns hC hne MC WC => ?_)
  exact comp_none (r := (.lst r.1, r.2.2)) a.rep R' E' hv hns hC MC WC fun c' h' R E hv => k _ c' h' tk R E hv
end
end Lm
end
section
open PySem PySem.W PyProof.Rows
set_option Elab.async false
set_option autoImplicit false
set_option linter.unusedVariables false
set_option linter.unusedSectionVars false
set_option linter.unusedSimpArgs false
set_option tactic.hygienic false
namespace Lm
section
variable {X : Cx} {tb : Tab} {n : Nat} {sc : Scope} {ls : Ls} {σ σ' σ1 σ2 σ3 : St} {c c' : Cfg} {A : Around} {env : Env} {s : Shared} {E : Value → Shared → Prop} {p q u : PV} {v : Value} {h h' : Heap} {I D : Addr}

theorem seq_ok {f : Stmt → Ls → St → Fl × Ls × St → Prop} (hf : ∀ {t ls σ r}, f t ls σ r → ExOk X n sc t ls σ r) {ts : List Stmt} {ls : Ls} {σ : St} {r : Fl × Ls × St} (h : seqF f ts ls σ r) : ExsOk X n sc ts ls σ r := by
  induction h with
  | nil => exact fun c s A E env Q a k => wpAny_execs_nil (k .next c s.heap s.toks a.rep Ext.refl a.fok .next)
  | next h1 _ ih =>
    refine fun c s A E env Q a k => wpAny_execs_cons (hf h1 c s A E env _ a fun fl c1 h1 tk1 R1 E1 F1 hfl => ?_)
    cases hfl
    exact ih c1 _ A E env Q (a.step R1 F1) fun fl c2 h2 tk2 R2 E2 F2 hfl => k fl c2 h2 tk2 R2 (Ext.trans a.rep E1 E2) F2 hfl
  | weak hw _ ih => exact fun c s A E env Q a k => ih c s A E env Q ⟨a.room, a.scope, a.rep, a.fok.sub hw⟩ k
  | stop hs h1 =>
    refine fun c s A E env Q a k => wpAny_execs_cons (hf h1 c s A E env _ a fun fl c1 h1 tk1 R1 E1 F1 hfl => ?_)
    have := k fl c1 h1 tk1 R1 E1 F1 hfl
    cases hfl <;> first | cases hs; done | exact this

theorem cells_some {x : Str} : ∀ {l : List (Str × NameKind)} {m : Nat} {acc : List (Str × Addr)}, ((acc.lookup x).isSome = true ∨ l.lookup x = some .cell) → ((cellsFrom m l acc).lookup x).isSome = true
  | [], m, acc, h => by
    rcases h with h | h
    · exact h
    · cases h
  | (y, k) :: r, m, acc, h => by
    unfold cellsFrom
    by_cases hk : k = .cell
    · subst hk
      simp only [beq_self_eq_true, if_true]
      refine cells_some ?_
      by_cases hx : x = y
      · subst hx; left; rw [List.lookup_cons_self]; rfl
      · have hb : (x == y) = false := beq_eq_false_iff_ne.mpr hx
        rw [List.lookup_cons, hb] at h ⊢
        exact h
    · have hkb : (k == NameKind.cell) = false := by simpa using hk
      simp only [hkb, Bool.false_eq_true, if_false]
      refine cells_some ?_
      by_cases hx : x = y
      · subst hx
        rw [List.lookup_cons_self] at h
        rcases h with h | h
        · exact .inl h
        · cases h; exact absurd rfl hk
      · have hb : (x == y) = false := beq_eq_false_iff_ne.mpr hx
        rw [List.lookup_cons, hb] at h
        exact h

theorem bindL_skip {kd : Str → Option NameKind} {x : Str} : ∀ {l : List (Str × Value)} {m : Str → Option Value}, x ∉ l.map (·.1) → bindL kd l m x = m x
  | [], _, _ => rfl
  | (y, v) :: r, m, h => by
    unfold bindL
    rw [List.map_cons, List.mem_cons, not_or] at h
    rw [bindL_skip h.2]
    split
    · exact if_neg h.1
    · rfl
theorem bindC_skip {kd : Str → Option NameKind} {x : Str} : ∀ {l : List (Str × Value)} {m : Str → Option Value}, x ∉ l.map (·.1) → bindC kd l m x = m x
  | [], _, _ => rfl
  | (y, v) :: r, m, h => by
    unfold bindC
    rw [List.map_cons, List.mem_cons, not_or] at h
    rw [bindC_skip h.2]
    split
    · rfl
    · exact if_neg h.1
theorem bindL_at {kd : Str → Option NameKind} {x : Str} {v : Value} (hk : kd x = some .local) : ∀ {l : List (Str × Value)} {m : Str → Option Value}, (l.map (·.1)).Nodup → (x, v) ∈ l → bindL kd l m x = some v
  | (y, u) :: r, m, hn, h => by
    rw [List.map_cons, List.nodup_cons] at hn
    unfold bindL
    rcases List.mem_cons.mp h with e | h
    · cases e
      rw [bindL_skip hn.1, if_pos hk]; simp
    · exact bindL_at hk hn.2 h
theorem bindC_at {kd : Str → Option NameKind} {x : Str} {v : Value} (hk : kd x = some .cell) : ∀ {l : List (Str × Value)} {m : Str → Option Value}, (l.map (·.1)).Nodup → (x, v) ∈ l → bindC kd l m x = some v
  | (y, u) :: r, m, hn, h => by
    rw [List.map_cons, List.nodup_cons] at hn
    unfold bindC
    rcases List.mem_cons.mp h with e | h
    · cases e
      rw [bindC_skip hn.1, if_neg (by rw [hk]; decide)]; simp
    · exact bindC_at hk hn.2 h

theorem getV_binds {ls : Ls} {bs : List (Str × Value)} {k : Str} {p : PV} (hn : bs.map (·.1) = ls.map (·.1)) (hv : IsVs X c h (ls.map (·.2)) (bs.map (·.2))) (g : getV k ls = some p) : ∃ v, (k, v) ∈ bs ∧ IsV X c h p v := by
  induction ls generalizing bs with
  | nil => exact nO g
  | cons e r ih => cases bs with
    | nil => cases hn
    | cons b bs =>
      have hv := IsVs.consP (show IsVs X c h (e.2 :: r.map (·.2)) (b.2 :: bs.map (·.2)) from hv)
      have hn := List.cons_eq_cons.mp (show b.1 :: bs.map (·.1) = e.1 :: r.map (·.1) from hn)
      have g : (if e.1 = k then some e.2 else getV k r) = some p := g
      by_cases hk : e.1 = k
      · rw [if_pos hk] at g
        exact ⟨b.2, by rw [← hk, ← hn.1]; exact List.mem_cons_self, Option.some.inj g ▸ hv.1⟩
      · rw [if_neg hk] at g
        exact (ih hn.2 hv.2 g).imp fun v q => ⟨List.mem_cons_of_mem _ q.1, q.2⟩

theorem bindP_names {F : Fn} {ps : List PV} {ls : Ls} (e : bindP F ps = some ls) : ls.map (·.1) = F.params := oI e fun h e => by
  rw [← Option.some.inj e, List.map_fst_zip]
  rw [List.length_append, List.length_drop]
  lia

theorem call_ok (W : Wd X) (S : Snd X tb n) {F : Fn} {ps : List PV} {r : PV × St} (e : callF tb (n + 1) F ps σ r) : CaOk X (n + 1) F ps σ r.1 r.2 := fun c s A R a vs fa room Rp hvs k => by
  obtain @⟨ls, l2, xf, pr, xs, hls, hx, e⟩ := (show CallR (EV tb n) σ F ps r from e)
  obtain ⟨oc, od, osl, fd, ho, hbody, hscope, hglob, hbul, hclo, hcd, hbind⟩ := fa.ob
  obtain ⟨binds, hb, hnames, hvals⟩ := hbind ps ls hls c s vs (Rp.K W) (fun a o e => ⟨Rp.base a o e, fun q => nO ((Rp.low a q).symm.trans e)⟩) hvs
  have hpn : binds.map (·.1) = F.params := hnames.trans (bindP_names hls)
  have hnd : (binds.map (·.1)).Nodup := by rw [hpn]; exact fa.nd
  have hmem : ∀ y ∈ binds, y.1 ∈ F.params := fun y hy => by rw [← hpn]; exact List.mem_map_of_mem (f := (·.1)) hy
  have hroom : A.depth < recursionLimit := Nat.lt_of_lt_of_le (Nat.lt_of_lt_of_le (Nat.lt_succ_self _) (Nat.le_trans (Nat.add_le_add_left (by decide : 1 ≤ 10) _) (Nat.add_le_add_right (Nat.le_add_right _ _) 10))) room.depth
  refine codeAny_call_function hroom (Rp.K W _ _ ho) rfl (by rw [hscope]; exact fa.co) (by rw [hscope]; exact fa.gen) hbody (codeRec_of (Rp.K W) hcd) (hb _ _ _ _ ?_)
  rw [hclo]
  have hkd : ∀ y ∈ binds, fd.scope.names.lookup y.1 = some .local ∨ (fd.scope.names.lookup y.1 = some .cell ∧ ((cellsFrom (s.heap.objs.size + 1) fd.scope.names []).lookup y.1).isSome = true) := fun y hy => by
    rw [hscope]
    rcases fa.par _ (hmem y hy) with h | h
    · exact .inl h
    · exact .inr ⟨h, cells_some (.inr h)⟩
  refine wpAny_newFunctionEnv_cells (by rw [hscope]; exact fa.kind) hkd fun env he s' x => ?_
  obtain ⟨h1, tk, rfl⟩ := x.toInCall.same
  have hsc : env.scope = F.scope := by rw [he]; exact hscope
  have hcs : env.cells = cellsFrom (s.heap.objs.size + 1) F.scope.names [] := by rw [he, ← hscope]; rfl
  have G : Gr s.heap h1 := x.toInCall.keep
  have fresh : ∀ b, s.heap.objs.size ≤ b → s.heap.get? b = none := fun b hb => by
    cases e : s.heap.get? b with
    | none => rfl
    | some o' => exact absurd (Heap.lt_size e) (Nat.not_lt.mpr hb)
  have faS : ∀ b, Fa env b → s.heap.get? b = none := fun b q => by
    rcases q with rfl | ⟨z, q⟩
    · exact fresh _ x.toInCall.fresh
    · exact fresh _ (Nat.le_of_lt (Nat.lt_of_le_of_lt x.toInCall.fresh (x.above z b (mem_of_lookup q))))
  have faL : ∀ b, Fa env b → Live h1 b := fun b q => by
    rcases q with rfl | ⟨z, q⟩
    · obtain ⟨o, es, ep, ho, _⟩ := x.toInCall.ns; exact ⟨o, ho⟩
    · obtain ⟨o, ho, _⟩ := x.cell z b q; exact ⟨o, ho⟩
  have R1 : Rep X (c.mark (Fa env)) σ h1 := Rp.mark G faS faL
  have E1 : Ext c σ s.heap (c.mark (Fa env)) σ h1 (Fa env) := Ext.mark G faS
  have F1 : Fok X (c.mark (Fa env)) σ h1 env ls := by
    refine ⟨by rw [hsc]; exact fa.kind, by rw [he]; exact hglob, by rw [he]; exact hbul, fun b q => ⟨.inr q, fun w => ?_⟩, ⟨_, x.toInCall.ns⟩, fun z b q => ⟨_, x.cell z b q⟩, x.apart, fun z q => ?_, fun z p g q => ?_⟩
    · obtain ⟨p, o, y, e1, e2⟩ := w
      exact (Rp.up b (Rp.wrM ⟨p, o, y, e1, e2⟩)).no (faS b q)
    · rw [hcs]
      refine cells_some (.inr ?_)
      unfold Env.kindOf at q
      rw [hsc] at q
      rcases q with q | q
      · exact q
      · exact absurd rfl (fa.nofree _ (mem_of_lookup q))
    · obtain ⟨v, g1, g2⟩ := getV_binds hnames hvals g
      refine ⟨v, ?_, g2.mono (Pres.mark G faS)⟩
      have hk : env.kindOf z = F.scope.names.lookup z := by unfold Env.kindOf; rw [hsc]
      rcases fa.par _ (hmem _ g1) with hp | hp
      · refine .inl ⟨hk.trans hp, _, x.toInCall.ns, ?_⟩
        exact bindL_at (hk.trans hp) hnd g1
      · obtain ⟨b, hb'⟩ := Option.isSome_iff_exists.mp (cells_some (x := z) (l := F.scope.names) (m := s.heap.objs.size + 1) (acc := []) (.inr hp))
        refine .inr ⟨.inl (hk.trans hp), b, by rw [hcs]; exact hb', ?_⟩
        have := x.cell z b (by rw [hcs]; exact hb')
        rwa [bindC_at (hk.trans hp) hnd g1] at this
  have room1 : Room (A.deeper env) n := room.in3 rfl rfl rfl
  refine ⟨(Rp.lim W).keeps G, codeAny_func ?_⟩
  have a1 : At X n F.scope ls σ (c.mark (Fa env)) (A.deeper env) env ({ s with heap := h1, toks := tk } : Shared).heap := ⟨room1, hsc, R1, F1⟩
  refine seq_ok (fun h => S.exc h) hx _ _ (A.deeper env) _ env _ a1 fun fl c2 h2 tk2 R2 E2 F2 hfl => ?_
  have E3 : Ext c σ s.heap c2 xs h2 NoZ := (Ext.trans Rp E1 E2).fresh fun b q => .inr (faS b q)
  clear a1 F2 E2 R1 E1 F1
  cases hfl with
  | next => exact k _ c2 h2 tk2 R2 E3 (Option.some.inj e ▸ .none')
  | ret hv => exact k _ c2 h2 tk2 R2 E3 (Option.some.inj e ▸ hv)
  | _ => exact nO e
end
end Lm
end
section
open PySem PySem.W PyProof.Rows
set_option Elab.async false
set_option autoImplicit false
set_option linter.unusedVariables false
set_option linter.unusedSectionVars false
set_option linter.unusedSimpArgs false
set_option tactic.hygienic false
namespace Lm
section
variable {X : Cx} {tb : Tab} {n : Nat} {sc : Scope} {ls : Ls} {σ σ' σ1 σ2 σ3 : St} {c c' : Cfg} {A : Around} {env : Env} {s : Shared} {E : Value → Shared → Prop} {p q u : PV} {v : Value} {h h' : Heap} {I D : Addr} {pos fp : Pos}

theorem evalArgs_of {M : Model} {f : Value} {Q : Args → Shared → Prop} : ∀ {trees : List (Bool × Sem Value)}, trees.any (·.1) = false → wpAny M A (spliced trees) (fun vs s' => Q ⟨vs, []⟩ s') E s → wpAny M A (evalArgs f true trees []) Q E s
  | [], _, h => by
    unfold evalArgs
    show wpAny M A (spliced [] >>= _) Q E s
    refine wpAny_bind (wpAny_mono h (fun vs s' h' => ?_) fun _ _ x => x)
    refine wpAny_bind (wpAny_pure ?_)
    refine wpAny_holding ?_
    exact wpAny_bind (wpAny_pure (wpAny_bind (wpAny_pure (wpAny_pure h'))))
  | (b, x) :: rest, hp, h => by
    cases b with
    | false => exact Calls.evalArgs_plain h
    | true => simp at hp

/-- a def or a class of the text is called -/
theorem callee_K (S : Snd X tb n) {f : Value} (hk : keepIn X.K f = true) {first : List Value} {args : List Expr} {r : List PV × St} (h : evs (fun e => ev tb n sc e ls) args σ r) (a : At X n sc ls σ c A env s.heap) (W : Wd X) {Q : Value → Shared → Prop}
    (k : ∀ vs c' h' tk, Rep X c' r.2 h' → Ext c σ s.heap c' r.2 h' NoZ → IsVs X c' h' r.1 vs → wpAny (model X.prog X.w) A (call f (first ++ vs)) Q E { s with heap := h', toks := tk }) :
    wpAny (model X.prog X.w) A (callWith pos f first (backTo pos (starEach args env)) []) Q E s := by
  have hno := Snd.evs_no h env pos
  refine callWith_of (by rw [hno]; rfl) (keeps_K hk) (evalArgs_of hno (S.evs h c s A E env pos _ a fun vs c1 h1 tk1 R1 E1 v1 => ?_))
  exact ⟨R1.K W, k vs c1 h1 tk1 R1 E1 v1⟩
theorem callee_B (S : Snd X tb n) {id : String} {first : List Value} {args : List Expr} {r : List PV × St} (h : evs (fun e => ev tb n sc e ls) args σ r) (a : At X n sc ls σ c A env s.heap) {Q : Value → Shared → Prop}
    (k : ∀ vs c' h' tk, Rep X c' r.2 h' → Ext c σ s.heap c' r.2 h' NoZ → IsVs X c' h' r.1 vs → wpAny (model X.prog X.w) A (call (.builtin id) (first ++ vs)) Q E { s with heap := h', toks := tk }) :
    wpAny (model X.prog X.w) A (callWith pos (.builtin id) first (backTo pos (starEach args env)) []) Q E s := by
  have hno := Snd.evs_no h env pos
  exact Calls.callWith_builtin hno (evalArgs_of hno (S.evs h c s A E env pos _ a fun vs c1 h1 tk1 R1 E1 v1 => k vs c1 h1 tk1 R1 E1 v1))
theorem callee_T (S : Snd X tb n) {T : String} {first : List Value} {args : List Expr} {r : List PV × St} (h : evs (fun e => ev tb n sc e ls) args σ r) (a : At X n sc ls σ c A env s.heap) {Q : Value → Shared → Prop}
    (k : ∀ vs c' h' tk, Rep X c' r.2 h' → Ext c σ s.heap c' r.2 h' NoZ → IsVs X c' h' r.1 vs → wpAny (model X.prog X.w) A (call (.type T) (first ++ vs)) Q E { s with heap := h', toks := tk }) :
    wpAny (model X.prog X.w) A (callWith pos (.type T) first (backTo pos (starEach args env)) []) Q E s := by
  have hno := Snd.evs_no h env pos
  exact PyProof.Rows.callWith_type hno (evalArgs_of hno (S.evs h c s A E env pos _ a fun vs c1 h1 tk1 R1 E1 v1 => k vs c1 h1 tk1 R1 E1 v1))

/-- a new object of a class of the text -/
noncomputable def InOk (X : Cx) (n : Nat) (C : Str) (ps : List PV) (σ : St) (p : PV) (σ' : St) : Prop :=
  ∀ (c : Cfg) (s : Shared) (A : Around) (R : Result → Shared → Prop) (vs : List Value), Room A n → Rep X c σ s.heap → IsVs X c s.heap ps vs →
    (∀ v c' h' tk, Rep X c' σ' h' → Ext c σ s.heap c' σ' h' NoZ → IsV X c' h' p v → R (.ok (.ret v)) { s with heap := h', toks := tk }) → codeAny (model X.prog X.w) A (.call (.ref (X.ca C)) ⟨vs, []⟩) R s
theorem inst_ok (W : Wd X) (T : TabOk X tb) (S : Snd X tb n) {C : Str} {fz : Bool} {ps : List PV} {r : PV × St} (hC : tb.cls C = some fz) (e : inst tb (n + 1) C ps σ r) : InOk X (n + 1) C ps σ r.1 r.2 := fun c s A R vs room Rp hvs k => by
  obtain ⟨F, σ2, hF, hq, e⟩ : ∃ F σ2, tb.meth C (Str.ofString "__init__") = some F ∧ callF tb n F (.obj (.i σ.n) :: ps) (σ.new (.i σ.n) (.inst C [] [])) (.none, σ2) ∧ ((∃ C' ks vs, σ2.H (.i σ.n) = some (.inst C' ks vs) ∧ r = (.inst C' ks vs, σ2.drop (.i σ.n))) ∨ r = (.obj (.i σ.n), σ2)) := by
    cases (show InstR tb (EV tb n) σ C ps r from e) with
    | fz h1 h2 h3 => exact ⟨_, _, h1, h2, .inl ⟨_, _, _, h3, rfl⟩⟩
    | ob h1 h2 => exact ⟨_, _, h1, h2, .inr rfl⟩
  obtain ⟨_, _, hmk, cf⟩ := T.cls C fz hC
  obtain ⟨_, a, hfi, fa⟩ := T.meth C _ F hF
  obtain ⟨hh, g, d, t, os⟩ := s
  have hd0 : hh.get? hh.objs.size = none := get?_size hh
  have ha0 : hh.get? (hh.objs.size + 1) = none := (none_or_live _ _).elim id fun ⟨o, e⟩ => absurd (Heap.lt_size e) (Nat.not_lt.mpr (Nat.le_succ _))
  refine make_core (makes_of (Rp.K W) hmk) (looks_findIn (Rp.K W) hfi) (fun self => bind_fn (Rp.K W) self (beq_iff_eq.mp fa.fnd)) (.inl rfl) ?_
  have G : Gr hh ((hh.push emptyDict).push (instObj (X.ca C) hh.objs.size)) := (Gr.push _).trans (Gr.push _)
  have hda : ((hh.push emptyDict).push (instObj (X.ca C) hh.objs.size)).get? hh.objs.size = some emptyDict := Heap.get?_push_of_some _ (Heap.get?_push_size _ rfl)
  have haa : ((hh.push emptyDict).push (instObj (X.ca C) hh.objs.size)).get? (hh.objs.size + 1) = some (instObj (X.ca C) hh.objs.size) := by
    have := Heap.get?_push_size (hh.push emptyDict) (o := instObj (X.ca C) hh.objs.size) rfl
    rwa [Heap.size_push] at this
  have hM : ¬ c.M (hh.objs.size + 1) := Rp.fresh _ ha0
  have O : ORep X (c.add (.i σ.n) (hh.objs.size + 1) hh.objs.size) ((hh.push emptyDict).push (instObj (X.ca C) hh.objs.size)) (.inst C [] []) (hh.objs.size + 1) hh.objs.size :=
    ⟨[], 0, [], haa, fun z => z.elim hM fun z => absurd z (Nat.succ_ne_self _), hda, Nat.zero_le _, .nil, .nil⟩
  have R1 := Rp.new (p := .i σ.n) rfl G hd0 O
  have E1 : Ext c σ hh _ _ _ NoZ := Ext.new Rp (p := .i σ.n) (o := .inst C [] []) (a := hh.objs.size + 1) (d := hh.objs.size) rfl G hd0
  have hv1 : IsVs X (c.add (.i σ.n) (hh.objs.size + 1) hh.objs.size) ((hh.push emptyDict).push (instObj (X.ca C) hh.objs.size)) (.obj (.i σ.n) :: ps) (.ref (hh.objs.size + 1) :: vs) := by
    exact .cons (ObjV.mk (hh.objs.size + 1) hh.objs.size (it1 rfl)) (hvs.mono (E1.presN Rp))
  have room1 : Room (A.under (.builtin "type.__call__" ⟨.ref (X.ca C) :: vs, []⟩)) n := room.in3 (d := 1) rfl rfl rfl
  refine S.call hq _ ⟨_, g, d, t, os⟩ _ _ a _ fa room1 R1 hv1 fun v c2 h2 tk2 R2 E2 v2 => ?_
  have E02 := Ext.trans Rp E1 E2
  refine v2.noneE ⟨rfl, ?_⟩
  have hρ : c2.ρ (.i σ.n) = some (hh.objs.size + 1, hh.objs.size) := E2.rho _ _ (it1 rfl)
  clear R1 E1 hv1 O
  rcases e with ⟨C', ks, vs', hH, rfl⟩ | rfl
  · obtain ⟨hM', es, m, ws, o1, o2, o3, o4, o5, o6⟩ := R2.at hH hρ
    exact k _ _ h2 tk2 (R2.drop hH hρ) (Ext.trans Rp E02 (Ext.drop R2 hH hρ)) (InsV.mk _ _ es m ws o1 o3 (fun z => o2 z.1) (fun z => z.2 rfl) (Nat.le_trans o4 (by decide)) o5 (o6.mono Pres.drop))
  · exact k _ c2 h2 tk2 R2 E02 (ObjV.mk _ _ hρ)

theorem ev_call_fn (W : Wd X) (T : TabOk X tb) (S : Snd X tb n) {f : Str} {F : Fn} {args : List Expr} {r : List PV × St} {w : PV × St} (hg : isGlob sc f = true) (hp : plainN f = true) (hf : tb.fn f = some F) (h : evs (fun e => ev tb n sc e ls) args σ r) (hw : callF tb n F r.1 r.2 w) :
    EvOk X (n + 1) sc (.Call (.Name f fp) args [] pos) ls σ w.1 w.2 := fun c s A E env Q a k => by
  obtain ⟨fa, h1, h2⟩ := T.fn f F hf
  refine wpAny_Call_NameR (glob_at W a.rep a.fok (by rw [a.kind]; exact beq_iff_eq.mp hg) hp h1 ?_)
  refine callee_K S h2.keep h (a.le (Nat.le_succ n)) W fun vs c1 h1 tk1 R1 E1 v1 => ?_
  refine wpAny_call (S.call hw c1 { s with heap := h1, toks := tk1 } A _ fa vs h2 (a.room.le (Nat.le_succ n)) R1 v1 fun v c2 h2 tk2 R2 E2 v2 => ?_)
  exact k v c2 h2 tk2 R2 (Ext.trans a.rep E1 E2) v2
theorem ev_call_cls (W : Wd X) (T : TabOk X tb) (S : Snd X tb n) {f : Str} {fz : Bool} {args : List Expr} {r : List PV × St} {w : PV × St} (hg : isGlob sc f = true) (hp : plainN f = true) (hf : tb.cls f = some fz) (h : evs (fun e => ev tb n sc e ls) args σ r) (hw : InOk X n f r.1 r.2 w.1 w.2) :
    EvOk X (n + 1) sc (.Call (.Name f fp) args [] pos) ls σ w.1 w.2 := fun c s A E env Q a k => by
  obtain ⟨h1, h2, h3, h4⟩ := T.cls f fz hf
  refine wpAny_Call_NameR (glob_at W a.rep a.fok (by rw [a.kind]; exact beq_iff_eq.mp hg) hp h1 ?_)
  refine callee_K S h2 h (a.le (Nat.le_succ n)) W fun vs c1 h1 tk1 R1 E1 v1 => ?_
  refine wpAny_call (hw c1 { s with heap := h1, toks := tk1 } A _ vs (a.room.le (Nat.le_succ n)) R1 v1 fun v c2 h2 tk2 R2 E2 v2 => ?_)
  exact k v c2 h2 tk2 R2 (Ext.trans a.rep E1 E2) v2

theorem boot_sorted : bootBuiltins (Str.ofString "sorted") = some (.builtin "sorted") := by kernel_rfl
theorem boot_range : bootBuiltins (Str.ofString "range") = some (.type "range") := by kernel_rfl
noncomputable def Bi.name : Bi → String
  | .len => "len" | .int => "int" | .max => "max" | .min => "min" | .bytes => "bytes" | .tuple => "tuple"
theorem boot_bi (b : Bi) : bootBuiltins (Str.ofString b.name) = some b.val := by cases b <;> kernel_rfl
theorem bi_mem (b : Bi) : Str.ofString b.name ∈ ["len", "int", "max", "min", "bytes", "tuple", "sorted", "range"].map Str.ofString ∧ Str.ofString b.name ≠ "__name__" := by
  cases b <;> exact ⟨by decide +kernel, by decide +kernel⟩
theorem iteE {α : Type} {c : Prop} [Decidable c] {x : α} {y : Option α} {b : α} {D : Prop} (h : (if c then some x else y) = some b) (k1 : c → x = b → D) (k2 : y = some b → D) : D := by
  by_cases hc : c
  · rw [if_pos hc] at h; exact k1 hc (Option.some.inj h)
  · rw [if_neg hc] at h; exact k2 h
theorem biOf_eq {f : Str} {b : Bi} (e : biOf f = some b) : f = Str.ofString b.name := by
  have go : ∀ {x : Bi}, f = Str.ofString x.name → x = b → f = Str.ofString b.name := fun h e => e ▸ h
  exact iteE e (go (x := .len)) fun e => iteE e (go (x := .int)) fun e => iteE e (go (x := .max)) fun e => iteE e (go (x := .min)) fun e => iteE e (go (x := .bytes)) fun e => iteE e (go (x := .tuple)) fun e => nO e

theorem ev_call_sorted (W : Wd X) (T : TabOk X tb) (S : Snd X tb n) {args : List Expr} {w : PV} (hg : isGlob sc (Str.ofString "sorted") = true) (hp : plainN (Str.ofString "sorted") = true) {p : PV} (h : evs (fun e => ev tb n sc e ls) args σ ([p], σ1)) (hw : sortv σ1 p = some w) :
    EvOk X (n + 1) sc (.Call (.Name (Str.ofString "sorted") fp) args [] pos) ls σ w σ1 := fun c s A E env Q a k => by
  refine wpAny_Call_NameR (blt_at W a.rep a.fok (by rw [a.kind]; exact beq_iff_eq.mp hg) hp (T.bi _ (by simp)) boot_sorted (by decide) ?_)
  refine callee_B S h (a.le (Nat.le_succ n)) fun vs c1 h1 tk1 R1 E1 v1 => ?_
  obtain ⟨v, rfl, f1⟩ := v1.one
  exact op_sorted (s := { s with heap := h1, toks := tk1 }) W R1 (a.room.fit (by decide)) a.room.hh hw f1 ((k.after (tk := tk1) a.rep E1).pu R1)
theorem ev_call_bi (W : Wd X) (T : TabOk X tb) (S : Snd X tb n) {f : Str} {b : Bi} {args : List Expr} {r : List PV × St} {w : PV} (hb : biOf f = some b) (hg : isGlob sc f = true) (hp : plainN f = true) (h : evs (fun e => ev tb n sc e ls) args σ r) (hw : bcall r.2 b r.1 = some w) :
    EvOk X (n + 1) sc (.Call (.Name f fp) args [] pos) ls σ w r.2 := fun c s A E env Q a k => by
  have hboot := boot_bi b
  have h1 := biOf_eq hb
  obtain ⟨h2, h3⟩ := bi_mem b
  rw [← h1] at hboot h2 h3
  refine wpAny_Call_NameR (blt_at W a.rep a.fok (by rw [a.kind]; exact beq_iff_eq.mp hg) hp (T.bi _ h2) hboot h3 ?_)
  have fin : ∀ vs c1 h1 tk1, Rep X c1 r.2 h1 → Ext c σ s.heap c1 r.2 h1 NoZ → IsVs X c1 h1 r.1 vs → wpAny (model X.prog X.w) A (call b.val ([] ++ vs)) Q E { s with heap := h1, toks := tk1 } := fun vs c1 h1 tk1 R1 E1 v1 =>
    op_bi (s := { s with heap := h1, toks := tk1 }) W R1 a.room.hh hw v1 ((k.after (tk := tk1) a.rep E1).pu R1)
  cases b <;> first
    | exact callee_B S h (a.le (Nat.le_succ n)) fin
    | exact callee_T S h (a.le (Nat.le_succ n)) fin
end
end Lm
end
section
open PySem PySem.W PyProof.Rows
set_option Elab.async false
set_option autoImplicit false
set_option linter.unusedVariables false
set_option linter.unusedSectionVars false
set_option linter.unusedSimpArgs false
set_option tactic.hygienic false
namespace Lm
section
variable {X : Cx} {tb : Tab} {n : Nat} {sc : Scope} {ls : Ls} {σ σ' σ1 σ2 σ3 : St} {c c' : Cfg} {A : Around} {env : Env} {s : Shared} {E : Value → Shared → Prop} {p q u : PV} {v : Value} {h h' : Heap} {I D : Addr} {pos fp apos : Pos}

theorem mcall_open {o : Expr} {x : Str} {args : List Expr} {Q : Value → Shared → Prop} (hb : plainBase o = true) (hfew : args.length < 20) (hline : apos.endLine = pos.line) (hno : (backTo pos (starEach args env)).any (·.1) = false)
    (h : wpAny (model X.prog X.w) A (eval o env) (fun ov s1 => ∀ pl, wpAny (model X.prog X.w) A (getMethod ov x pl) (fun r s2 => wpAny (model X.prog X.w) A (callWith pos r.1 r.2 (backTo pos (starEach args env)) []) Q E s2) E s1) E s) :
    wpAny (model X.prog X.w) A (eval (.Call (.Attribute o x apos) args [] pos) env) Q E s := by
  rw [arm_eval_Call, base_eq o x env _ hb]
  refine wpAny_bind (wpAny_mono h (fun ov s1 h1 => wpAny_bind (wpAny_standAt ?_)) fun _ _ e => e)
  have hall : (backTo pos (starEach args env)).all (fun x => !x.1) = true := by
    rw [List.all_eq_true]
    intro y hy
    cases hy1 : y.1 with
    | false => rfl
    | true =>
      have : (backTo pos (starEach args env)).any (·.1) = true := List.any_eq_true.mpr ⟨y, hy, hy1⟩
      rw [hno] at this; cases this
  have hform : methodCallForm (args.length + ([] : List Keyword).length) (backTo pos (starEach args env)) (backToKw pos (keywordEach [] env)) = true := by
    unfold methodCallForm
    rw [hall]
    show (true && true && decide (args.length + 0 + 0 < 30)) = true
    simp; lia
  have hpos : methodCallPos true o env apos pos = pure pos := by unfold methodCallPos; simp [hline]
  unfold methodCall
  rw [hform]
  refine wpAny_bind (wpAny_holding (wpAny_mono (h1 _) (fun r s2 h2 => ?_) fun _ _ e => e))
  exact wpAny_bind (wpAny_of_eq hpos h2)

theorem notIn_getL {x : Str} {es : List DictEntry} {ks : List Str} {ws : List Value} (he : EsAt es (List.zip ks ws)) (hx : ks.contains x = false) {m : Nat} : shadowIn (some (dictOf es m)) x = some false := by
  show (lookIn x (dictOf es m)).map _ = _
  rw [lookIn_dict, (he.getL (x := x)).1]
  have : (List.zip ks ws).lookup x = none := by
    clear he
    induction ks generalizing ws with
    | nil => rfl
    | cons k ks ih =>
      cases ws with
      | nil => rfl
      | cons w ws =>
        rw [List.contains_cons, Bool.or_eq_false_iff] at hx
        rw [List.zip_cons_cons, List.lookup_cons, hx.1]
        exact ih hx.2
  rw [this]; rfl

theorem meth_own (W : Wd X) (T : TabOk X tb) (R : Rep X c σ s.heap) {x : Str} {F : Fn} (e : MkR tb σ p x (.own F)) (hp : IsV X c s.heap p v) {pl : Sem Bool} {Q : Value × List Value → Shared → Prop} (k : ∀ f, FnAt X F f → Q (.ref f, [v]) s) : wpAny (model X.prog X.w) A (getMethod v x pl) Q E s := by
  generalize hm : MK.own F = m at e
  induction e with
  | @inst _ _ _ _ F' hx hF =>
    obtain rfl : F = F' := by cases hm; rfl
    revert k
    refine hp.instE fun a d es m ws h1 h2 m1 m2 hz he hv k => ?_
    obtain ⟨cf, f, hf, fa⟩ := T.meth _ _ F hF
    exact method_fn (R.K W) (inst_at h1 h2) cf.ga cf.gh hf (beq_iff_eq.mp fa.fnd) (notIn_getL he hx) (k f fa)
  | @obj _ _ _ _ _ F' hH hx hF =>
    obtain rfl : F = F' := by cases hm; rfl
    obtain ⟨a, d, rfl, hρ, hM, es, m, ws, h1, m1, h2, hz, he, hv⟩ := R.at_ hp hH
    obtain ⟨cf, f, hf, fa⟩ := T.meth _ _ F hF
    exact method_fn (R.K W) (inst_at h1 h2) cf.ga cf.gh hf (beq_iff_eq.mp fa.fnd) (notIn_getL he hx) (k f fa)
  | _ => exact nomatch hm
theorem McR.no {m : MK} {ps : List PV} {r : PV × St} (h : McR σ m p ps r) : m.isOwn = false := by induction h <;> rfl

theorem ev_mcall_own (W : Wd X) (T : TabOk X tb) (S : Snd X tb n) {o : Expr} {x : Str} {args : List Expr} {F : Fn} {r : List PV × St} {w : PV × St} (hb : plainBase o = true) (hfew : args.length < 20) (hline : apos.endLine = pos.line) (ho : ev tb n sc o ls σ (p, σ1)) (hm : MkR tb σ1 p x (.own F))
    (h : evs (fun e => ev tb n sc e ls) args σ1 r) (hw : callF tb n F (p :: r.1) r.2 w) : EvOk X (n + 1) sc (.Call (.Attribute o x apos) args [] pos) ls σ w.1 w.2 := fun c s A E env Q a k => by
  have a' := a.le (Nat.le_succ n)
  refine mcall_open hb hfew hline (Snd.evs_no h env pos) (S.ev ho c s A E env _ a' fun v c1 h1 tk1 R1 E1 v1 pl => ?_)
  refine meth_own (s := { s with heap := h1, toks := tk1 }) W T R1 hm v1 fun f fa => ?_
  refine callee_K S fa.keep h (a'.next R1 E1) W fun vs c2 h2 tk2 R2 E2 v2 => ?_
  refine wpAny_call (S.call hw c2 { s with heap := h2, toks := tk2 } A _ f (v :: vs) fa a'.room R2 (.cons (v1.mono (E2.presN R1)) v2) fun v c3 h3 tk3 R3 E3 v3 => ?_)
  exact k v c3 h3 tk3 R3 (Ext.trans a.rep E1 (Ext.trans R1 E2 E3)) v3
theorem ev_mcall_bi (W : Wd X) (S : Snd X tb n) {o : Expr} {x : Str} {args : List Expr} {m : MK} {r : List PV × St} {w : PV × St} (hb : plainBase o = true) (hfew : args.length < 20) (hline : apos.endLine = pos.line) (ho : ev tb n sc o ls σ (p, σ1)) (hm : MkR tb σ1 p x m)
    (h : evs (fun e => ev tb n sc e ls) args σ1 r) (hw : McR r.2 m p r.1 w) : EvOk X (n + 1) sc (.Call (.Attribute o x apos) args [] pos) ls σ w.1 w.2 := fun c s A E env Q a k => by
  have a' := a.le (Nat.le_succ n)
  refine mcall_open hb hfew hline (Snd.evs_no h env pos) (S.ev ho c s A E env _ a' fun v c1 h1 tk1 R1 E1 v1 pl => ?_)
  refine meth_lookup (s := { s with heap := h1, toks := tk1 }) R1 hm hw.no v1 ?_
  refine callee_B S h (a'.next R1 E1) fun vs c2 h2 tk2 R2 E2 v2 => ?_
  refine op_mcall (s := { s with heap := h2, toks := tk2 }) W R2 (a'.room.fit (by decide)) hw (v1.mono (E2.presN R1)) v2 ?_
  exact (k.after (tk := tk1) a.rep E1).after (tk := tk2) R1 E2

theorem rangeSize_neg (a b : Int) : Builtin.Range.rangeSize a b (-1) = if b < a then (a - b - 1) / 1 + 1 else 0 := rfl
theorem rangeSize_ok {a b d : Int} (ha : -(2 ^ 40) ≤ a ∧ a ≤ 2 ^ 40 ∧ -(2 ^ 40) ≤ b ∧ b ≤ 2 ^ 40 ∧ (d = 1 ∨ d = -1)) : Builtin.Range.small a b d = true ∧ (Builtin.Range.rangeSize a b d) = ((Builtin.Range.rangeSize a b d).toNat : Int) := by
  obtain ⟨h1, h2, h3, h4, h5⟩ := ha
  rcases h5 with rfl | rfl
  · refine ⟨small_one (by lia) (by lia) (by lia) (by lia), (Int.toNat_of_nonneg ?_).symm⟩
    rw [rangeSize_one]; split <;> lia
  · have hz : 0 ≤ Builtin.Range.rangeSize a b (-1) ∧ Builtin.Range.rangeSize a b (-1) ≤ 2 ^ 41 := by
      unfold Builtin.Range.rangeSize
      simp only [show ¬ ((-1 : Int) > 0) by decide, if_false, show (-(-1) : Int) = 1 from rfl, Int.ediv_one]
      split <;> lia
    refine ⟨?_, (Int.toNat_of_nonneg hz.1).symm⟩
    unfold Builtin.Range.small
    simp only [Builtin.Range.rangeFitsLong, Bool.and_eq_true, Bool.or_eq_true, decide_eq_true_eq, beq_iff_eq]
    exact ⟨⟨⟨⟨⟨by omega, by omega⟩, by omega⟩, by omega⟩, by omega⟩, .inr (by rw [if_neg (by decide), Bool.and_eq_true, decide_eq_true_eq, decide_eq_true_eq]; omega)⟩

/-- a range is walked -/
theorem range_src (R : Rep X c σ s.heap) (hh : A.handled = none) {a b d : Int} {l : List PV} (hl : rangeL a b d = some l) {h₁ : Heap} {r : Addr} {t t' t'' : Tok} (hr : IsRange h₁ r a b d t t' t'') {Q : Value → Shared → Prop} (R1 : Rep X c σ h₁)
    (k : ∀ oI, Src X A c σ h₁ (h₁.push oI) h₁.objs.size l none → Q (.ref h₁.objs.size) { s with heap := h₁.push oI }) : wpAny (model X.prog X.w) A (pyIter (.ref r)) Q E { s with heap := h₁ } := by
  refine oI hl fun hb hl => ?_
  rw [← Option.some.inj hl] at k
  clear hl
  obtain ⟨hs, hz⟩ := rangeSize_ok hb
  clear hb
  refine wpAny_pyIter_range hr hs (k _ ?_)
  have W' := Walks.range (prog := X.prog) (w := X.w) hh h₁.objs.size a d (Builtin.Range.rangeSize a b d).toNat
  have hlen : ((List.range (Builtin.Range.rangeSize a b d).toNat).map fun i : Nat => PV.int (a + (i : Int) * d)).length = (Builtin.Range.rangeSize a b d).toNat := by rw [List.length_map, List.length_range]
  refine ⟨_, _, _, hlen.symm ▸ W', ?_, fun i u q hP hq c' h' P => ?_, fun b hb => .inl (List.mem_singleton.mp hb), fun i h' st => ⟨_, _, st, rfl, .tail _ (.head _)⟩⟩
  · have := Heap.get?_push_size h₁ (o := { cls := .type "range_iterator", data := .fields #[rawInt a, rawInt (Builtin.Range.rangeSize a b d), rawInt d] }) rfl
    rw [hlen, show a + ((0 : Nat) : Int) * d = a from by rw [Int.natCast_zero, Int.zero_mul, Int.add_zero], show (((Builtin.Range.rangeSize a b d).toNat : Nat) : Int) - ((0 : Nat) : Int) = Builtin.Range.rangeSize a b d from by rw [← hz]; exact Int.sub_zero _]
    exact this
  · obtain ⟨t, rfl⟩ := hP
    rw [List.getElem?_map] at hq
    obtain ⟨j, hj, rfl⟩ := Option.map_eq_some_iff.mp hq
    obtain ⟨_, hj⟩ := List.getElem?_eq_some_iff.mp hj
    rw [List.getElem_range] at hj
    rw [hj]; exact .int'

theorem intsO_eq {l : List PV} {is : List Int} (h : intsO l = some is) : l = is.map PV.int := by
  induction l generalizing is with
  | nil => exact oS h rfl
  | cons p l ih => exact oB h fun i h1 h => oB h fun js h2 h => by rw [← Option.some.inj h, asI_eq h1, ih h2]; rfl
theorem it_range (W : Wd X) (T : TabOk X tb) (S : Snd X tb n) {args : List Expr} {r : List PV × St} {l : List PV} (hg : isGlob sc (Str.ofString "range") = true) (h : evs (fun e => ev tb n sc e ls) args σ r) (hl : rangeA r.1 = some l) :
    ItOk X (n + 1) sc (.Call (.Name (Str.ofString "range") fp) args [] pos) ls σ l none r.2 := ⟨fun _ _ => rfl, fun c s A E env Q a k => by
  refine wpAny_Call_NameR (blt_at W a.rep a.fok (by rw [a.kind]; exact beq_iff_eq.mp hg) (by decide) (T.bi _ (by simp)) boot_range (by decide) ?_)
  refine callee_T S h (a.le (Nat.le_succ n)) fun vs c1 h1 tk1 R1 E1 v1 => ?_
  have fin : ∀ (x y d : Int) (t t' t'' : Tok) (tk : Nat), rangeL x y d = some l → wpAny (model X.prog X.w) A (pyIter (.ref h1.objs.size)) Q E { s with heap := h1.push { cls := .type "range", data := .fields #[.int x t, .int y t', .int d t''] }, toks := tk } := fun x y d t t' t'' tk hx => by
    have G := Gr.push (h := h1) { cls := .type "range", data := .fields #[.int x t, .int y t', .int d t''] }
    refine range_src (s := { s with heap := h1.push { cls := .type "range", data := .fields #[.int x t, .int y t', .int d t''] }, toks := tk }) (R1.grow G) a.room.hh hx (IsRange.new _ _ _ _ _ _ _) (R1.grow G) fun oI Sr => ?_
    exact k c1 _ tk oI (R1.grow G) (Ext.trans a.rep E1 (Ext.grow G)) Sr
  refine oB hl fun is hi hl => ?_
  rw [intsO_eq hi] at v1
  cases is with
  | nil => exact nO hl
  | cons b is => cases is with
    | nil => exact v1.consE fun v _ f1 v1 => v1.nilE (f1.intE fun t => call_range_1 (fin _ _ _ _ _ _ _ hl))
    | cons x is => cases is with
      | nil => exact v1.consE fun v _ f1 v1 => v1.consE fun v2 _ f2 v1 => v1.nilE (f1.intE fun t => f2.intE fun t2 => call_range_2 (fin _ _ _ _ _ _ _ hl))
      | cons d is => cases is with
        | cons => exact nO hl
        | nil =>
          have hd : d ≠ 0 ∧ d.natAbs < 1073741824 := oI hl fun hh _ => by rcases hh.2.2.2.2 with h | h <;> rw [h] <;> decide
          exact v1.consE fun v _ f1 v1 => v1.consE fun v2 _ f2 v1 => v1.consE fun v3 _ f3 v1 => v1.nilE (f1.intE fun t => f2.intE fun t2 => f3.intE fun t3 => call_range_3 hd.1 (fin _ _ _ _ _ _ _ hl) (.inl (PyProof.noPylong_small hd.2)))⟩

theorem it_ev (W : Wd X) (S : Snd X tb n) {e : Expr} {i : List PV × Option Loc} (he : ev tb n sc e ls σ (p, σ1)) (hi : items σ1 p = some i) : ItOk X (n + 1) sc e ls σ i.1 i.2 σ1 := ⟨fun env x => by
  have h := marks_set he
  clear he
  cases e <;> first | rfl | exact bT h, fun c s A E env Q a k => by
  refine S.ev he c s A E env _ (a.le (Nat.le_succ n)) fun v c1 h1 tk1 R1 E1 v1 => ?_
  exact op_iter (s := { s with heap := h1, toks := tk1 }) W R1 a.room.hh hi v1 fun oI Sr => k c1 h1 tk1 oI R1 E1 Sr⟩
end
end Lm
end
section
open PySem PySem.W PyProof.Rows
set_option Elab.async false
set_option autoImplicit false
set_option linter.unusedVariables false
set_option linter.unusedSectionVars false
set_option linter.unusedSimpArgs false
set_option tactic.hygienic false
namespace Lm
section
variable {X : Cx} {tb : Tab} {n : Nat} {sc : Scope} {ls : Ls} {σ σ' σ1 σ2 σ3 : St} {c c' : Cfg} {A : Around} {env : Env} {s : Shared} {E : Value → Shared → Prop} {p q u : PV} {v : Value} {h h' : Heap} {I D : Addr} {pos fp apos : Pos}

/-- a new numbered object at one fresh address -/
theorem new_obj (R : Rep X c σ h) {p : Loc} {o : AO} {ob : Obj} (hp : p.idx = σ.n) (hf : ob.isFreed = false) (ho : ORep X (c.add p h.objs.size h.objs.size) (h.push ob) o h.objs.size h.objs.size) :
    Rep X (c.add p h.objs.size h.objs.size) (σ.new p o) (h.push ob) ∧ Ext c σ h (c.add p h.objs.size h.objs.size) (σ.new p o) (h.push ob) NoZ ∧ IsV X (c.add p h.objs.size h.objs.size) (h.push ob) (.obj p) (.ref h.objs.size) := by
  refine ⟨R.new hp (Gr.push _) (get?_size _) ho, Ext.new R hp (Gr.push _) (get?_size _), ObjV.mk h.objs.size h.objs.size (it1 rfl)⟩

theorem ev_list_num (S : Snd X tb n) {es : List Expr} {r : List PV × St} (h : Lm.evs (fun e => Lm.ev tb n sc e ls) es σ r) : EvOk X (n + 1) sc (.List es pos) ls σ (.obj (.l r.2.n)) (r.2.new (.l r.2.n) (.lst r.1)) := fun c s A E env Q a k => by
  refine wpAny_List (S.evs h c s A E env pos _ (a.le (Nat.le_succ n)) fun vs c1 h1 t1 R1 e1 v1 => ⟨?_, ?_⟩)
  · rw [v1.length, sizeLine_eq]; exact Nat.le_trans (evs_len h).1 (by decide)
  · obtain ⟨R2, E2, V2⟩ := new_obj R1 (p := .l r.2.n) (o := .lst r.1) (ob := lstObj vs.toArray 0) rfl rfl
      ⟨rfl, vs.toArray, 0, Heap.get?_push_size _ rfl, by simpa using v1.mono (Pres.add R1 (p := .l r.2.n) rfl (Gr.push _) (get?_size _))⟩
    exact k _ _ _ t1 R2 (Ext.trans a.rep e1 E2) V2
theorem ev_dict_di : EvOk X n sc (.Dict [] [] pos) ls σ (.obj (.d σ.n)) (σ.new (.d σ.n) (.di [])) := fun c s A E env Q a k => by
  refine wpAny_Dict_empty ?_
  obtain ⟨R2, E2, V2⟩ := new_obj a.rep (p := .d σ.n) (o := .di []) (ob := { cls := .type "dict", data := .dict #[] }) rfl rfl ⟨rfl, [], Heap.DictOf.new _, rfl, .nil⟩
  exact k _ _ _ s.toks R2 E2 V2
theorem ev_dict_dn : EvOk X n sc (.Dict [] [] pos) ls σ (.obj (.d σ.n)) (σ.new (.d σ.n) (.dn [])) := fun c s A E env Q a k => by
  refine wpAny_Dict_empty ?_
  obtain ⟨R2, E2, V2⟩ := new_obj a.rep (p := .d σ.n) (o := .dn []) (ob := { cls := .type "dict", data := .dict #[] }) rfl rfl ⟨rfl, [], Heap.DictOfH.new _, by simp, rfl, .nil⟩
  exact k _ _ _ s.toks R2 E2 V2

/-- a marked address gets a number -/
noncomputable def Cfg.adopt (c : Cfg) (p : Loc) (D : Addr) : Cfg := { c with ρ := fun q => if q = p then some (D, D) else c.ρ q }
theorem Pres.adopt (R : Rep X c σ h) {p : Loc} (hp : p.idx = σ.n) (hM : c.M D) (hs : Heap.SameBut D h h') : Pres c h (c.adopt p D) h' where
  data := fun b o e n => ⟨(hs.2 b fun z => n (z ▸ hM)).trans e, n⟩
  rho := fun q x e => (it0 fun hq => nO ((R.none hp).1.symm.trans (hq ▸ e))).trans e
theorem Rep.adopt (R : Rep X c σ h) {p : Loc} {o : AO} (hp : p.idx = σ.n) (hM : c.M D) (hW : ¬ Wr c σ D) (hs : Heap.SameBut D h h') (ho : ORep X (c.adopt p D) h' o D D) : Rep X (c.adopt p D) (σ.new p o) h' where
  base := fun b o e => SameBut.low R hs hM b o e
  low := R.low
  up := fun b q => SameBut.live hs ho.live b (R.up b q)
  obj := fun q oq e => itP (show (if q = p then some o else σ.H q) = some oq from e) (fun hq e => ⟨D, D, it1 hq, hM, Option.some.inj e ▸ ho⟩) fun hq e => by
    obtain ⟨b, d', e1, e2, e3⟩ := R.obj q oq e
    exact ⟨b, d', (it0 hq).trans e1, e2, ORep.mono (Pres.adopt R hp hM hs) (fun x hx => (hs.2 d' fun z => hW (z ▸ ⟨q, oq, b, e, e1⟩)).trans hx) e3⟩
  inj := fun q r o1 o2 a1 b1 d1 e1 e2 f1 f2 => by
    have kn : ∀ {q : Loc} {o1 : AO} {a1 : Addr}, (σ.new p o).H q = some o1 → (c.adopt p D).ρ q = some (a1, d1) → (q = p ∧ D = d1) ∨ (d1 ≠ D ∧ ∃ o1, σ.H q = some o1 ∧ c.ρ q = some (a1, d1)) := fun {q o1 a1} e f =>
      itP (show (if q = p then some (D, D) else c.ρ q) = some (a1, d1) from f) (fun hq f => .inl ⟨hq, snd_eq f⟩) fun hq f =>
        itP (show (if q = p then some o else σ.H q) = some o1 from e) (fun hq' => absurd hq' hq) fun _ e => .inr ⟨fun z => hW (z ▸ ⟨q, o1, a1, e, f⟩), o1, e, f⟩
    rcases kn e1 f1 with ⟨g1, g2⟩ | ⟨g1, _, g2, g3⟩
    · rcases kn e2 f2 with ⟨k1, k2⟩ | ⟨k1, _, k2, k3⟩
      · exact g1.trans k1.symm
      · exact absurd g2.symm k1
    · rcases kn e2 f2 with ⟨k1, k2⟩ | ⟨k1, _, k2, k3⟩
      · exact absurd k2.symm g1
      · exact R.inj q r _ _ a1 b1 d1 g2 k2 g3 k3
  nx := fun q x e => itP (show (if q = p then some (D, D) else c.ρ q) = some x from e) (fun hq _ => by rw [hq, hp]; exact Nat.lt_succ_self _) fun _ e => Nat.lt_succ_of_lt (R.nx q x e)
theorem Ext.adopt {c₀ : Cfg} {σ₀ : St} {h₀ : Heap} (R₀ : Rep X c₀ σ₀ h₀) (R : Rep X c σ h) (E : Ext c₀ σ₀ h₀ c σ h NoZ) {p : Loc} {o : AO} (hp : p.idx = σ.n) (hD : h₀.get? D = none) (hM : c.M D) (hW : ¬ Wr c σ D) (hl : Live h' D) (hs : Heap.SameBut D h h') : Ext c₀ σ₀ h₀ (c.adopt p D) (σ.new p o) h' NoZ where
  live := fun a l => SameBut.live hs hl a (E.live a l)
  keep := fun a o e n z => (hs.2 a fun y => nO (hD.symm.trans (y ▸ e))).trans (E.keep a o e n z)
  ver := fun q oq x b e1 e2 e3 => by
    have hq : q ≠ p := fun z => by
      have h3 : σ.V q + 1 = σ₀.V q := (it1 z).symm.trans e3
      exact absurd (E.vle q) (Nat.not_le.mpr (h3 ▸ Nat.lt_succ_self _))
    obtain ⟨g1, g2⟩ := E.ver q oq x b e1 e2 ((it0 hq).symm.trans e3)
    exact ⟨(it0 hq).trans g1, fun y hy => (hs.2 b fun z => (R₀.up b (R₀.wrM ⟨q, oq, x, e1, e2⟩)).no (z ▸ hD)).trans (g2 y hy)⟩
  vle := fun q => Nat.le_trans (E.vle q) bump_le
  m1 := E.m1
  m2 := E.m2
  wr := fun b ⟨q, oq, x, e1, e2⟩ => itP (show (if q = p then some (D, D) else c.ρ q) = some (x, b) from e2) (fun _ e2 => .inr (snd_eq e2 ▸ hD)) fun hq e2 => E.wr b ⟨q, oq, x, (it0 hq).symm.trans e1, e2⟩
  rho := fun q x e => (it0 fun hq => absurd (hp ▸ hq ▸ R.nx _ _ (E.rho _ _ e)) (Nat.lt_irrefl _)).trans (E.rho _ _ e)

theorem ev_dict3 (W : Wd X) {k1 k2 k3 : Str} {i1 i2 i3 : Nat} {q1 q2 q3 : Pos} {e1 e2 e3 : Expr} {a1 a2 a3 : PV} (hne : k1 ≠ k2 ∧ k1 ≠ k3 ∧ k2 ≠ k3) (hx1 : EvOk X n sc e1 ls σ a1 σ1) (hx2 : EvOk X n sc e2 ls σ1 a2 σ2) (hx3 : EvOk X n sc e3 ls σ2 a3 σ3) :
    EvOk X (n + 1) sc (.Dict [some (.Constant (.str k1) i1 q1), some (.Constant (.str k2) i2 q2), some (.Constant (.str k3) i3 q3)] [e1, e2, e3] pos) ls σ (.obj (.d σ3.n)) (σ3.new (.d σ3.n) (.ds [(k1, a1), (k2, a2), (k3, a3)])) := fun c s A E env Q a k => by
  have a' := a.le (Nat.le_succ n)
  have hD : s.heap.get? s.heap.objs.size = none := get?_size _
  have G0 := Gr.push (h := s.heap) { cls := .type "dict", data := .dict #[] }
  have hDat := Heap.get?_push_size s.heap (o := { cls := .type "dict", data := .dict #[] }) rfl
  have hS : ∀ b, b = s.heap.objs.size → s.heap.get? b = none := fun b e => e ▸ hD
  have R0 := a'.rep.mark (S := (· = s.heap.objs.size)) G0 hS fun b e => e ▸ ⟨_, hDat⟩
  have E0 : Ext c σ s.heap _ σ _ NoZ := Ext.mark (S := (· = s.heap.objs.size)) G0 hS
  have A0 := a'.next R0 E0
  have hM0 : (c.mark (· = s.heap.objs.size)).M s.heap.objs.size := .inr rfl
  have hW0 : ¬ Wr (c.mark (· = s.heap.objs.size)) σ s.heap.objs.size := fun w => by
    obtain ⟨p, o, x, e1, e2⟩ := w
    exact (a'.rep.up _ (a'.rep.wrM ⟨p, o, x, e1, e2⟩)).no hD
  have HD := Heap.DictOf.new (knd := PySem.strKind X.prog X.w) s.heap
  generalize hc0 : c.mark (· = s.heap.objs.size) = c0 at *
  generalize hh0 : s.heap.push { cls := .type "dict", data := .dict #[] } = h0 at *
  generalize hDD : s.heap.objs.size = D at *
  refine wpAny_Dict_pairs (knd := PySem.strKind X.prog X.w) (pairs := [(eval (.Constant (.str k1) i1 q1) env, do let x ← eval e1 env; standAt pos; pure x), (eval (.Constant (.str k2) i2 q2) env, do let x ← eval e2 env; standAt pos; pure x), (eval (.Constant (.str k3) i3 q3) env, do let x ← eval e3 env; standAt pos; pure x)]) rfl (by simp) (by simp) ?_
  rw [hh0, hDD]
  refine evalPairs_cons (wpAny_Constant_str (wpAny_bind (hx1 c0 { s with heap := h0, toks := s.toks + 1 } A E env _ A0 fun v1 c1 h1 t1 R1 E1 V1 => wpAny_bind (wpAny_standAt (wpAny_pure ?_)))))
  have A1 := A0.next R1 E1
  refine evalPairs_cons (wpAny_Constant_str (wpAny_bind (hx2 c1 { s with heap := h1, toks := t1 + 1 } A E env _ A1 fun v2 c2 h2 t2 R2 E2 V2 => wpAny_bind (wpAny_standAt (wpAny_pure ?_)))))
  have A2 := A1.next R2 E2
  refine evalPairs_cons (wpAny_Constant_str (wpAny_bind (hx3 c2 { s with heap := h2, toks := t2 + 1 } A E env _ A2 fun v3 c3 h3 t3 R3 E3 V3 => wpAny_bind (wpAny_standAt (wpAny_pure ?_)))))
  have A3 := A2.next R3 E3
  have E03 : Ext c0 σ h0 c3 σ3 h3 NoZ := Ext.trans R0 E1 (Ext.trans R1 E2 E3)
  refine evalPairs_nil ⟨[(k1, v1), (k2, v2), (k3, v3)], ?_, ?_, fun h' hd hs => ?_⟩
  · exact ⟨beq_self_eq_true k1, rfl, beq_self_eq_true k2, rfl, beq_self_eq_true k3, rfl, trivial⟩
  · obtain ⟨o, es, ep, ho, rr⟩ := HD
    exact ⟨o, es, ep, E03.keep _ _ ho hW0 fun f => f, rr⟩
  · have hM3 : c3.M D := E03.m2 D hM0 hW0
    have hW3 : ¬ Wr c3 σ3 D := fun w => (E03.wr D w).elim hW0 fun z => by
      obtain ⟨o, es, ep, ho, rr⟩ := HD
      exact Live.no ⟨_, ho⟩ z
    have P3 := Pres.adopt R3 (p := .d σ3.n) rfl hM3 hs
    have hmg : merged ([] : List (Str × Value)) [(k1, v1), (k2, v2), (k3, v3)] = [(k1, v1), (k2, v2), (k3, v3)] := by
      obtain ⟨n1, n2, n3⟩ := hne
      simp [merged, stored, n1, n2, n3]
    rw [hmg] at hd
    have O : ORep X (c3.adopt (.d σ3.n) D) h' (.ds [(k1, a1), (k2, a2), (k3, a3)]) D D :=
      ⟨rfl, _, hd, rfl, .cons (((V1.mono (E2.presN R1)).mono (E3.presN R2)).mono P3) (.cons ((V2.mono (E3.presN R2)).mono P3) (.cons (V3.mono P3) .nil))⟩
    refine k _ (c3.adopt (.d σ3.n) D) h' _ (R3.adopt rfl hM3 hW3 hs O) (Ext.adopt a.rep R3 (Ext.trans a.rep E0 E03) rfl hD hM3 hW3 O.live hs) ?_
    exact ObjV.mk D D (it1 rfl)
end
end Lm
end
section
open PySem PySem.W PyProof.Rows
set_option Elab.async false
set_option autoImplicit false
set_option linter.unusedVariables false
set_option linter.unusedSectionVars false
set_option linter.unusedSimpArgs false
set_option tactic.hygienic false
namespace Lm
section
variable {X : Cx} {tb : Tab} {n m : Nat} {sc : Scope} {ls ls' : Ls} {σ σ' σ1 σ2 σ3 : St} {c c' : Cfg} {A : Around} {env : Env} {s : Shared} {E : Value → Shared → Prop} {p q u : PV} {v : Value} {h h' : Heap} {I D : Addr} {pos fp apos : Pos}

theorem EvOk.le {e : Expr} (k : EvOk X n sc e ls σ p σ1) (hm : n ≤ m) : EvOk X m sc e ls σ p σ1 := fun c s A E env Q a q => k c s A E env Q (a.le hm) q
theorem AsOk.le {t : Expr} (k : AsOk X n sc t p ls σ ls' σ1) (hm : n ≤ m) : AsOk X m sc t p ls σ ls' σ1 := fun c s A E env v Q a hv q => k c s A E env v Q (a.le hm) hv q
theorem ItOk.le {e : Expr} {l : List PV} {loc : Option Loc} (k : ItOk X n sc e ls σ l loc σ1) (hm : n ≤ m) : ItOk X m sc e ls σ l loc σ1 := ⟨k.1, fun c s A E env Q a q => k.2 c s A E env Q (a.le hm) q⟩
theorem TnOk.le {elt : Expr} {gens : List Comprehension} {scope : Scope} {depth : Nat} {g : Comprehension} {x : PV} {r : List PV × Ls × St} (k : TnOk X n sc elt gens scope pos depth g x ls σ r) (hm : n ≤ m) : TnOk X m sc elt gens scope pos depth g x ls σ r :=
  fun c s A E env D outs v Q a => k c s A E env D outs v Q (a.le hm)

theorem Fok.congr {ls' : Ls} (F : Fok X c σ h env ls) (e : ∀ k, getV k ls' = getV k ls) : Fok X c σ h env ls' := { F with vars := fun k p g => F.vars k p (e k ▸ g) }

-- several targets
noncomputable def AssOk (X : Cx) (n : Nat) (sc : Scope) (ts : List Expr) (ps : List PV) (ls : Ls) (σ : St) (ls' : Ls) (σ' : St) : Prop :=
  (∀ env, (assignEach ts env).length = ps.length ∧ (assignEach ts env).findIdx? (·.1) = none) ∧
  ∀ (c : Cfg) (s : Shared) (A : Around) (E : Value → Shared → Prop) (env : Env) (us : List Value) (Q : Unit → Shared → Prop), At X n sc ls σ c A env s.heap → IsVs X c s.heap ps us →
    (∀ c' h' tk, Rep X c' σ' h' → Ext c σ s.heap c' σ' h' (Fa env) → Fok X c' σ' h' env ls' → Q () { s with heap := h', toks := tk }) → wpAny (model X.prog X.w) A (assignInOrder ((assignEach ts env).map (·.2)) us) Q E s
theorem ass_nil : AssOk X n sc [] [] ls σ ls σ := ⟨fun _ => ⟨rfl, rfl⟩, fun c s A E env us Q a hv k => hv.nilE (wpAny_assignInOrder_none (k c s.heap s.toks a.rep Ext.refl a.fok))⟩
theorem each_one {t : Expr} (h : isMark t = false) (rest : List Expr) (env : Env) : assignEach (t :: rest) env = (false, assign t env) :: assignEach rest env := by
  cases t <;> first | rfl | exact bT h
theorem Fa.M (F : Fok X c σ h env ls) {b : Addr} (z : Fa env b) : c.M b := (F.fa b z).1
theorem ass_cons {t : Expr} {ts : List Expr} {ps : List PV} {ls1 ls2 : Ls} (hst : isMark t = false) (h1 : AsOk X n sc t p ls σ ls1 σ1) (h2 : AssOk X n sc ts ps ls1 σ1 ls2 σ2) : AssOk X n sc (t :: ts) (p :: ps) ls σ ls2 σ2 := by
  refine ⟨fun env => ?_, fun c s A E env us Q a hv k => ?_⟩
  · rw [each_one hst]
    refine ⟨congrArg Nat.succ (h2.1 env).1, ?_⟩
    rw [List.findIdx?_cons, (h2.1 env).2]; rfl
  · rw [each_one hst]
    refine hv.consE fun w r e1 e2 => wpAny_assignInOrder_more (t := assign t env) (h1 c s A E env w _ a e1 fun c1 h1' tk1 R1 E1 F1 => ?_)
    refine h2.2 c1 _ A E env r Q (a.step R1 F1) (e2.mono (Ext.pres a.rep (fun b z => Fa.M a.fok z) E1)) fun c2 h2' tk2 R2 E2 F2 => ?_
    exact k c2 h2' tk2 R2 (Ext.trans a.rep E1 E2) F2

theorem asgs_ok {f : Expr → PV → Ls → St → Ls × St → Prop} (hf : ∀ {t p ls σ r}, f t p ls σ r → AsOk X n sc t p ls σ r.1 r.2) {ts : List Expr} {ps : List PV} {ls : Ls} {σ : St} {r : Ls × St} (h : asgsF f ts ps ls σ r) : AssOk X n sc ts ps ls σ r.1 r.2 := by
  induction h with
  | nil => exact ass_nil
  | cons hs h1 _ ih => exact ass_cons hs (hf h1) ih

theorem draw_walks {fp wr : List Addr} {N : Nat} {P : Nat → Value → Prop} {St : Nat → Heap → Prop} (W : Walks X.prog X.w A I fp wr N P St) (k i : Nat) (s : Shared) (Q : List Value → Shared → Prop) (st : St i s.heap) (hle : i + k ≤ N)
    (hQ : ∀ vs h' tk, vs.length = k → (∀ j v, vs[j]? = some v → P (i + j) v) → St (i + k) h' → (∀ b o, b ∉ wr → s.heap.get? b = some o → h'.get? b = some o) → Q vs { s with heap := h', toks := tk }) : wpAny (model X.prog X.w) A (draw (.ref I) k) Q E s := by
  induction k generalizing i s Q with
  | zero => exact wpAny_pure (hQ [] s.heap s.toks rfl (fun j v e => nO e) st fun _ _ _ e => e)
  | succ k ih =>
    have hi : i + 1 + k = i + (k + 1) := Nat.succ_add_eq_add_succ i k
    refine wpAny_bind (m := pyNext (.ref I)) (W.item i s _ _ (Nat.lt_of_lt_of_le (Nat.lt_add_of_pos_right (Nat.succ_pos k)) hle) st fun v h1 tk1 hP st1 hk1 => ?_)
    refine wpAny_bind (wpAny_holding (ih (i + 1) _ _ st1 (hi ▸ hle) fun vs h2 tk2 hl hP2 st2 hk2 => wpAny_pure ?_))
    refine hQ (v :: vs) h2 tk2 (congrArg Nat.succ hl) (fun j u e => ?_) (hi ▸ st2) fun b o hb e => hk2 b o hb (hk1 b o hb e)
    cases j with
    | zero => exact Option.some.inj e ▸ hP
    | succ j => exact Nat.succ_add_eq_add_succ i j ▸ hP2 j u e

theorem unpackItems_list {l : Addr} {items : Array Value} {Q : List Value → Shared → Prop} (hh : A.handled = none) (hl : s.heap.IsList l items)
    (hQ : ∀ h' tk, Gr s.heap h' → Q items.toList { s with heap := h', toks := tk }) : wpAny (model X.prog X.w) A (unpackItems (.ref l) items.size none) Q E s := by
  have hne : l ≠ s.heap.objs.size := by obtain ⟨o, ho, _⟩ := hl; exact Nat.ne_of_lt (Heap.lt_size ho)
  unfold unpackItems
  refine wpAny_bind ?_
  unfold notIterableAtAll
  refine wpAny_bind (wpAny_specialOf hl.typeIs slot_list_iter.lookup ?_)
  refine wpAny_pure (bm_if_false rfl ?_)
  refine wpAny_bind (wpAny_holding (wpAny_pyIter_list hl ?_))
  have W := Walks.list (prog := X.prog) (w := X.w) hh s.heap.objs.size l hne items
  refine wpAny_bind (wpAny_holding (draw_walks W items.size 0 _ _ ⟨⟨_, Heap.get?_push_size _ rfl, rfl, rfl⟩, hl.push _⟩ (Nat.le_of_eq (Nat.zero_add _)) fun vs h1 tk1 hvl hP st1 hk1 => ?_))
  have hvs : vs = items.toList := by
    refine List.ext_getElem? fun j => ?_
    by_cases hj : j < items.size
    · have e1 : vs[j]? = some vs[j] := List.getElem?_eq_getElem (hvl ▸ hj)
      have := hP j _ e1
      rw [Nat.zero_add] at this
      rw [e1, Array.getElem?_toList, this]
    · rw [List.getElem?_eq_none (hvl ▸ Nat.le_of_not_lt hj), Array.getElem?_toList, Array.getElem?_eq_none (Nat.le_of_not_lt hj)]
  subst hvs
  rw [Nat.zero_add] at st1
  refine wpAny_ite_split (fun z => absurd (Array.length_toList ▸ z) (Nat.lt_irrefl _)) fun _ => ?_
  refine wpAny_bind (wpAny_holding (W.done _ _ _ st1 fun h2 tk2 hk2 => bm_if_false rfl ?_))
  refine wpAny_pure (hQ h2 tk2 fun b o e => ?_)
  have hb : b ∉ [s.heap.objs.size] := fun z => by rw [List.mem_singleton.mp z, get?_size] at e; exact nO e
  exact hk2 b o hb (hk1 b o hb (Heap.get?_push_of_some _ e))

theorem as_tuple_tup {ts : List Expr} {ps : List PV} {kk : Nat} (h : AssOk X n sc ts ps ls σ ls' σ1) : AsOk X n sc (.Tuple ts kk pos) (.tup ps) ls σ ls' σ1 := fun c s A E env v Q a hv k => by
  refine hv.tupE fun b us m h1 m1 f => ?_
  have hsz : us.size = _ := f.length
  refine wpAny_assign_Tuple a.room.hh (isTup h1) ((h.1 env).1.trans hsz.symm) (h.1 env).2 fun h' eb => ?_
  have G : Gr s.heap h' := fun b o e => eb b o (fun z => by rw [z, get?_size] at e; exact nO e) e
  refine h.2 c { s with heap := h' } A E env us.toList Q (a.next (a.rep.grow G) (Ext.grow G)) (f.gr G) fun c2 h2 tk2 R2 E2 F2 => ?_
  exact k c2 h2 tk2 R2 (Ext.trans a.rep (Ext.grow G) E2) F2
theorem as_tuple_lst {ts : List Expr} {ps : List PV} {kk : Nat} (h : AssOk X n sc ts ps ls σ ls' σ1) : AsOk X n sc (.Tuple ts kk pos) (.lst ps) ls σ ls' σ1 := fun c s A E env v Q a hv k => by
  refine hv.lstE fun b us m h1 m1 f => ?_
  have hsz : us.size = _ := f.length
  rw [assign_Tuple]
  refine wpAny_bind (wpAny_standAt ?_)
  unfold unpack
  rw [(h.1 env).1.trans hsz.symm, (h.1 env).2]
  refine wpAny_bind (wpAny_holding (unpackItems_list a.room.hh (isLst h1) fun h' tk G => ?_))
  refine h.2 c { s with heap := h', toks := tk } A E env us.toList Q (a.next (a.rep.grow G) (Ext.grow G)) (f.gr G) fun c2 h2 tk2 R2 E2 F2 => ?_
  exact k c2 h2 tk2 R2 (Ext.trans a.rep (Ext.grow G) E2) F2

-- single targets
theorem as_name {x : Str} (hv : isVar sc x = true) (hf : sc.names.lookup x ≠ some .free) : AsOk X n sc (.Name x pos) p ls σ (setL x p ls) σ := fun c s A E env v Q a hp k => by
  rw [PySem.assign_Name]
  refine wpAny_bind (wpAny_standAt (st_var a.rep a.fok hp ?_ fun h' tk R' E' F' => k c h' tk R' E' F'))
  have : ∀ k, varKind k = true → k ≠ some .free → k = some .local ∨ k = some .cell := fun k h h' => by
    cases k with
    | none => exact bF h
    | some k => cases k <;> first | exact bF h | exact .inl rfl | exact .inr rfl | exact absurd rfl h'
  rw [a.kind]
  exact (this _ hv hf).imp id fun h => ⟨h, a.fok.has x (.inl (by rw [a.kind, h]))⟩
theorem as_attr (W : Wd X) (T : TabOk X tb) {o : Expr} {x : Str} (ho : EvOk X n sc o ls σ q σ1) (e : setAttrv tb σ1 q x p = some σ2) : AsOk X (n + 1) sc (.Attribute o x pos) p ls σ ls σ2 := fun c s A E env v Q a hp k => by
  rw [arm_assign_Attribute]
  refine wpAny_bind (wpAny_holding (ho c s A E env _ (a.le (Nat.le_succ n)) fun ov c1 h1 tk1 R1 E1 v1 => wpAny_bind (wpAny_standAt (wpAny_bind (wpAny_holding ?_)))))
  refine op_setattr (s := { s with heap := h1, toks := tk1 }) W T R1 e v1 (hp.mono (E1.presN a.rep)) fun h2 tk2 R2 E2 => ?_
  have E3 := Ext.trans a.rep E1 E2
  exact wpAny_rel <| k c1 h2 tk2 R2 (E3.weaken fun _ f => f.elim) (a.fok.ext a.rep (fun _ f => f.elim) (fun _ _ f => f) E3)
theorem as_sub (W : Wd X) {o i : Expr} (ho : EvOk X n sc o ls σ q σ1) (hi : EvOk X n sc i ls σ1 u σ2) (e : setItemv σ2 q u p = some σ3) : AsOk X (n + 1) sc (.Subscript o i pos) p ls σ ls σ3 := fun c s A E env v Q a hp k => by
  rw [assign_Subscript]
  have a' := a.le (Nat.le_succ n)
  refine wpAny_bind (wpAny_holding (ho c s A E env _ a' fun ov c1 h1 tk1 R1 E1 v1 => ?_))
  refine wpAny_bind (wpAny_holding (hi c1 _ A E env _ (a'.next R1 E1) fun iv c2 h2 tk2 R2 E2 v2 => wpAny_bind (wpAny_standAt (wpAny_bind (wpAny_holding ?_)))))
  refine op_setitem (s := { s with heap := h2, toks := tk2 }) W R2 (a.room.fit (by decide)) e (v1.mono (E2.presN R1)) v2 ((hp.mono (E1.presN a.rep)).mono (E2.presN R1)) fun h3 tk3 R3 E3 => ?_
  have E4 := Ext.trans a.rep E1 (Ext.trans R1 E2 E3)
  exact wpAny_rel (k c2 h3 tk3 R3 (E4.weaken fun _ f => f.elim) (a.fok.ext a.rep (fun _ f => f.elim) (fun _ _ f => f) E4))

end
end Lm
end
section
open PySem PySem.W PyProof.Rows
set_option Elab.async false
set_option autoImplicit false
set_option linter.unusedVariables false
set_option linter.unusedSectionVars false
set_option linter.unusedSimpArgs false
set_option tactic.hygienic false
namespace Lm
section
variable {X : Cx} {tb : Tab} {n m : Nat} {sc : Scope} {ls ls' : Ls} {σ σ' σ1 σ2 σ3 : St} {c c' : Cfg} {A : Around} {env : Env} {s : Shared} {E : Value → Shared → Prop} {p q u : PV} {v : Value} {h h' : Heap} {I D : Addr} {pos fp apos : Pos}

theorem swaps_no {e : Expr} {l : Nat} (hc : noComp e = true) (t : Option Expr) : swapsWith e t l env = pure false := by
  cases e <;> first | rfl | exact bF hc

theorem ex_expr {e : Expr} (hc : noComp e = true) (he : EvOk X n sc e ls σ p σ1) : ExOk X (n + 1) sc (.Expr e pos) ls σ (.next, ls, σ1) := fun c s A E env Q a k => by
  refine wpAny_Expr_any (he c s A E env _ (a.le (Nat.le_succ n)) fun v c1 h1 tk1 R1 E1 v1 => ?_) ?_ (swaps_no hc none)
  · exact k .next c1 h1 tk1 R1 (E1.weaken fun _ f => f.elim) (a.fok.ext a.rep (fun _ f => f.elim) (fun _ _ f => f) E1) .next
  · unfold interactive; rw [a.fok.kind]; rfl
theorem ex_pass : ExOk X n sc (.Pass pos) ls σ (.next, ls, σ) := fun c s A E env Q a k => wpAny_Pass (k .next c s.heap s.toks a.rep Ext.refl a.fok .next)
theorem ex_break : ExOk X n sc (.Break pos) ls σ (.brk, ls, σ) := fun c s A E env Q a k => wpAny_Break (k .brk c s.heap s.toks a.rep Ext.refl a.fok .brk)
theorem ex_continue : ExOk X n sc (.Continue pos) ls σ (.cont, ls, σ) := fun c s A E env Q a k => wpAny_Continue (k .cont c s.heap s.toks a.rep Ext.refl a.fok .cont)
theorem ex_ret {e : Expr} (he : EvOk X n sc e ls σ p σ1) : ExOk X (n + 1) sc (.Return (some e) pos) ls σ (.ret p, ls, σ1) := fun c s A E env Q a k => by
  refine wpAny_Return_some (he c s A E env _ (a.le (Nat.le_succ n)) fun v c1 h1 tk1 R1 E1 v1 => ?_)
  exact k (.ret v) c1 h1 tk1 R1 (E1.weaken fun _ f => f.elim) (a.fok.ext a.rep (fun _ f => f.elim) (fun _ _ f => f) E1) (.ret v1)
theorem ex_ret_name {e : Expr} {l : Loc} {l' : List PV} (he : EvOk X n sc e ls σ (.obj l) σ1) (hH : σ1.H l = some (.lst l')) : ExOk X (n + 1) sc (.Return (some e) pos) ls σ (.ret (.lst l'), ls, σ1.drop l) := fun c s A E env Q a k => by
  refine wpAny_Return_some (he c s A E env _ (a.le (Nat.le_succ n)) fun v c1 h1 tk1 R1 E1 v1 => ?_)
  obtain ⟨a', d, rfl, hρ, hM, rfl, vs, m, h1', h2'⟩ := R1.at_ v1 hH
  have R2 := R1.drop hH hρ
  have E2 := Ext.trans a.rep E1 (Ext.drop R1 hH hρ)
  refine k (.ret _) _ h1 tk1 R2 (E2.weaken fun _ f => f.elim) (a.fok.ext a.rep (fun _ f => f.elim) (fun _ _ f => f) E2) (.ret (SeqV.mk _ vs m h1' (fun z => z.2 rfl) (h2'.mono Pres.drop)))

theorem ex_if {t : Expr} {b o : List Stmt} {bb : Bool} {r : Fl × Ls × St} (ht : TrOk X n sc t ls σ bb σ1) (hb : bb = true → ExsOk X n sc b ls σ1 r) (ho : bb = false → ExsOk X n sc o ls σ1 r) : ExOk X (n + 1) sc (.If t b o pos) ls σ r := fun c s A E env Q a k => by
  have a' := a.le (Nat.le_succ n)
  refine wpAny_If (ht c s A E env _ a' fun c1 h1 tk1 R1 E1 => ?_)
  have k' : ∀ f c' h' tk, Rep X c' r.2.2 h' → Ext c1 σ1 h1 c' r.2.2 h' (Fa env) → Fok X c' r.2.2 h' env r.2.1 → IsFl X c' h' r.1 f → Q f { s with heap := h', toks := tk } := fun f c' h' tk R' E' F' hf =>
    k f c' h' tk R' (Ext.trans a.rep (E1.weaken fun _ f => f.elim) E') F' hf
  cases bb with
  | true => exact hb rfl c1 { s with heap := h1, toks := tk1 } A E env Q (a'.next R1 E1) k'
  | false => exact ho rfl c1 { s with heap := h1, toks := tk1 } A E env Q (a'.next R1 E1) k'

theorem ex_try {b : List Stmt} {h0 : ExceptHandler} {hs : List ExceptHandler} {r : Fl × Ls × St} (hb : ExsOk X n sc b ls σ r) : ExOk X (n + 1) sc (.Try b (h0 :: hs) [] [] pos) ls σ r := fun c s A E env Q a k => by
  refine wpAny_Try_except (hb c s A _ env _ (a.le (Nat.le_succ n)) fun f c1 h1 tk1 R1 E1 F1 hf => ?_)
  have := k f c1 h1 tk1 R1 E1 F1 hf
  cases f <;> first | exact this | exact wpAny_execs_nil this

inductive WInv (X : Cx) (testF : Ls → St → Bool × St → Prop) (bodyF : Ls → St → Fl × Ls × St → Prop) (env : Env) (c : Cfg) (σ : St) (s : Shared) (r : Fl × Ls × St) (j : Nat) (s' : Shared) : Prop
  | mk (ls1 : Ls) (σ1 : St) (c1 : Cfg) (h1 : Heap) (tk1 : Nat) : s' = { s with heap := h1, toks := tk1 } → whileF testF bodyF j ls1 σ1 r → Rep X c1 σ1 h1 → Ext c σ s.heap c1 σ1 h1 (Fa env) → Fok X c1 σ1 h1 env ls1 → WInv X testF bodyF env c σ s r j s'
/-- how a while goes on -/
inductive WhileV (testF : Ls → St → Bool × St → Prop) (bodyF : Ls → St → Fl × Ls × St → Prop) (ls : Ls) (σ : St) (r : Fl × Ls × St) : Nat → Prop
  | done (k : Nat) (s1 : St) : testF ls σ (false, s1) → r = (.next, ls, s1) → WhileV testF bodyF ls σ r (k + 1)
  | on (k : Nat) (s1 s2 : St) (fl : Fl) (l1 : Ls) : testF ls σ (true, s1) → bodyF ls s1 (fl, l1, s2) → (fl.goes = true → ∃ l2, Sub l2 l1 ∧ whileF testF bodyF k l2 s2 r) → (fl.goes = false → r.2 = (l1, s2) ∧ r.1 = match fl with | .ret p => .ret p | _ => .next) → WhileV testF bodyF ls σ r (k + 1)
theorem whileV {testF : Ls → St → Bool × St → Prop} {bodyF : Ls → St → Fl × Ls × St → Prop} {ls : Ls} {σ : St} {r : Fl × Ls × St} {k : Nat} (h : whileF testF bodyF k ls σ r) : WhileV testF bodyF ls σ r k := by
  cases h with
  | done hx => exact .done _ _ hx rfl
  | on hx hz hg hs hw => exact .on _ _ _ _ _ hx hz (fun _ => ⟨_, hs, hw⟩) fun e => bT (hg.symm.trans e)
  | brk hx hz => exact .on _ _ _ _ _ hx hz (fun e => bF e) fun _ => ⟨rfl, rfl⟩
  | ret hx hz => exact .on _ _ _ _ _ hx hz (fun e => bF e) fun _ => ⟨rfl, rfl⟩
theorem while_turn {test : Expr} {testF : Ls → St → Bool × St → Prop} (ht : ∀ {ls σ r}, testF ls σ r → TrOk X n sc test ls σ r.1 r.2) {ls1 : Ls} {c1 : Cfg} {h1 : Heap} {tk1 : Nat} (a : At X n sc ls σ c A env s.heap) (R1 : Rep X c1 σ1 h1) (E1 : Ext c σ s.heap c1 σ1 h1 (Fa env)) (F1 : Fok X c1 σ1 h1 env ls1) {b : Bool} (hx : testF ls1 σ1 (b, σ2)) {Q : Bool → Shared → Prop}
    (k : ∀ c2 h2 tk2, At X n sc ls1 σ2 c2 A env h2 → Ext c σ s.heap c2 σ2 h2 (Fa env) → Q b { s with heap := h2, toks := tk2 }) : wpAny (model X.prog X.w) A (isTrue test env (eval test env)) Q E { s with heap := h1, toks := tk1 } := by
  have a1 : At X n sc ls1 σ1 c1 A env ({ s with heap := h1, toks := tk1 } : Shared).heap := a.step R1 F1
  exact ht hx c1 _ A _ env _ a1 fun c2 h2 tk2 R2 E2 => k c2 h2 tk2 (a1.next R2 E2) (Ext.trans a.rep E1 (E2.weaken fun _ f => f.elim))
theorem while_ok {test : Expr} {body : List Stmt} {testF : Ls → St → Bool × St → Prop} {bodyF : Ls → St → Fl × Ls × St → Prop} (ht : ∀ {ls σ r}, testF ls σ r → TrOk X n sc test ls σ r.1 r.2) (hb : ∀ {ls σ r}, bodyF ls σ r → ExsOk X n sc body ls σ r)
    {k : Nat} {r : Fl × Ls × St} (hw : whileF testF bodyF k ls σ r) : ExOk X (n + 1) sc (.While test body [] pos) ls σ r := fun c s A E env Q a kk => by
  have a' := a.le (Nat.le_succ n)
  refine wpAny_While (codeAny_whileLoop (WInv X testF bodyF env c σ s r) ?_ k ⟨ls, σ, c, s.heap, s.toks, rfl, hw, a.rep, Ext.refl, a.fok⟩)
  rintro j s' ⟨ls1, σ1, c1, h1, tk1, rfl, hw, R1, E1, F1⟩
  rcases whileV hw with ⟨k, s1, hx, e0⟩ | ⟨k, s1, s2, fl, l1, hx, hz, hg, hs⟩
  · subst e0
    exact while_turn ht a' R1 E1 F1 hx fun c2 h2 tk2 a2 E2 => wpAny_execs_nil (kk .next c2 h2 tk2 a2.rep E2 a2.fok .next)
  · refine while_turn ht a' R1 E1 F1 hx fun c2 h2 tk2 a2 E2 => ?_
    clear hw R1 E1 F1 hx
    refine hb hz c2 { s with heap := h2, toks := tk2 } A _ env _ a2 fun f c3 h3 tk3 R3 E3 F3 hf => ?_
    clear hz a2
    have E4 := Ext.trans a.rep E2 E3
    have go : fl.goes = true → ∃ m, m < k + 1 ∧ WInv X testF bodyF env c σ s r m { s with heap := h3, toks := tk3 } := fun e =>
      (hg e).elim fun l2 q => ⟨_, Nat.lt_succ_self _, l2, s2, c3, h3, tk3, rfl, q.2, R3, E4, F3.sub q.1⟩
    have no : fl.goes = false → ∀ f, IsFl X c3 h3 r.1 f → Q f { s with heap := h3, toks := tk3 } := fun e f hf => by
      obtain ⟨e1, _⟩ := hs e
      exact kk f c3 h3 tk3 (by rw [e1]; exact R3) (by rw [e1]; exact E4) (by rw [e1]; exact F3) hf
    clear kk R3 E2 E3 E4 F3 hg
    cases hf with
    | next => exact go rfl
    | cont => exact go rfl
    | brk => exact no rfl _ (by rw [(hs rfl).2]; exact .next)
    | ret hv => exact no rfl _ (by rw [(hs rfl).2]; exact .ret hv)

-- assignments
theorem assign_open {t e : Expr} {Q : Flow → Shared → Prop} {M : Model} (hst : isMark t = false) (hs : swapsWith e (some t) pos.line env = pure false) (hw : swappedStores [t] e env = pure none)
    (h : wpAny M A (eval e env) (fun v s1 => wpAny M A (assign t env v) (fun _ => Q .next) E s1) E s) : wpAny M A (exec (.Assign [t] e pos) env) Q E s := by
  rw [exec_Assign_arm]
  refine wpAny_bind (wpAny_standAt ?_)
  have hs' : swapsWithSole [t] e pos.line env = pure false := hs
  rw [hs', hw]
  refine wpAny_bind (wpAny_pure (bm_if_false rfl ?_))
  refine wpAny_bind (wpAny_mono h (fun v s1 h1 => wpAny_bind (wpAny_pure ?_)) fun _ _ e => e)
  rw [each_one hst]
  exact wpAny_bind (wpAny_mono h1 (fun _ s2 h2 => wpAny_pure h2) fun _ _ e => e)

theorem ex_assign {t e : Expr} (hst : isMark t = false) (hs : ∀ env : Env, env.scope.kind = .function → swapsWith e (some t) pos.line env = pure false) (hw : ∀ env : Env, swappedStores [t] e env = pure none) (he : EvOk X n sc e ls σ p σ1) (ha : AsOk X n sc t p ls σ1 ls' σ2) :
    ExOk X (n + 1) sc (.Assign [t] e pos) ls σ (.next, ls', σ2) := fun c s A E env Q a k => by
  have a' := a.le (Nat.le_succ n)
  refine assign_open hst (hs env a.fok.kind) (hw env) (he c s A E env _ a' fun v c1 h1 tk1 R1 E1 v1 => ?_)
  refine ha c1 { s with heap := h1, toks := tk1 } A E env v _ (a'.next R1 E1) v1 fun c2 h2 tk2 R2 E2 F2 => ?_
  exact k .next c2 h2 tk2 R2 (Ext.trans a.rep (E1.weaken fun _ f => f.elim) E2) F2 .next

noncomputable def setAll : List (Str × PV) → Ls → Ls
  | [], ls => ls
  | x :: r, ls => setAll r (setL x.1 x.2 ls)
theorem setAll_skip {k : Str} {l : List (Str × PV)} {ls : Ls} (hk : k ∉ l.map (·.1)) : getV k (setAll l ls) = getV k ls := by
  induction l generalizing ls with
  | nil => rfl
  | cons x r ih =>
    rw [List.map_cons, List.mem_cons, not_or] at hk
    exact (ih hk.2).trans ((getV_setL ..).trans (if_neg hk.1))
theorem setAll_at {k : Str} {p : PV} {l : List (Str × PV)} {ls : Ls} (hn : (l.map (·.1)).Nodup) (hm : (k, p) ∈ l) : getV k (setAll l ls) = some p := by
  induction l generalizing ls with
  | nil => exact nomatch hm
  | cons x r ih =>
    rw [List.map_cons, List.nodup_cons] at hn
    rcases List.mem_cons.mp hm with rfl | hm
    · exact (setAll_skip hn.1).trans ((getV_setL ..).trans (if_pos rfl))
    · exact ih hn.2 hm
theorem setAll_rev {l : List (Str × PV)} (hn : (l.map (·.1)).Nodup) (ls : Ls) (k : Str) : getV k (setAll l ls) = getV k (setAll l.reverse ls) := by
  have hn' : (l.reverse.map (·.1)).Nodup := by rw [List.map_reverse]; exact List.pairwise_reverse.mpr (hn.imp fun h => Ne.symm h)
  by_cases hk : k ∈ l.map (·.1)
  · obtain ⟨x, hx, rfl⟩ := List.mem_map.mp hk
    rw [setAll_at (p := x.2) hn hx, setAll_at (p := x.2) hn' (by simpa using hx)]
  · rw [setAll_skip hk, setAll_skip (by simpa using hk)]

theorem binds_ok {l : List (Str × PV)} {ls : Ls} (c : Cfg) (s : Shared) (us : List Value) (Q : Unit → Shared → Prop) (hl : ∀ x ∈ l, env.kindOf x.1 = some .local) (R : Rep X c σ s.heap) (F : Fok X c σ s.heap env ls) (hv : IsVs X c s.heap (l.map (·.2)) us)
    (k : ∀ h' tk, Rep X c σ h' → Ext c σ s.heap c σ h' (Fa env) → Fok X c σ h' env (setAll l ls) → Q () { s with heap := h', toks := tk }) : wpAny (model X.prog X.w) A (assignInOrder (l.map fun x => bindName env x.1) us) Q E s := by
  induction l generalizing ls us s with
  | nil => exact hv.nilE (wpAny_assignInOrder_none (k s.heap s.toks R Ext.refl F))
  | cons x r ih =>
    refine IsVs.consE (show IsVs X c s.heap (x.2 :: r.map (·.2)) us from hv) fun w us' e1 e2 => wpAny_assignInOrder_more (t := bindName env x.1) ?_
    exact st_var R F e1 (.inl (hl x List.mem_cons_self)) fun h1 tk1 R1 E1 F1 => ih { s with heap := h1, toks := tk1 } us' (fun y hy => hl y (List.mem_cons_of_mem _ hy)) R1 F1 (e2.mono (Ext.pres R (fun b z => Fa.M F z) E1)) fun h2 tk2 R2 E2 F2 => k h2 tk2 R2 (Ext.trans R E1 E2) F2
end
end Lm
end
section
open PySem PySem.W PyProof.Rows
set_option Elab.async false
set_option autoImplicit false
set_option linter.unusedVariables false
set_option linter.unusedSectionVars false
set_option linter.unusedSimpArgs false
set_option tactic.hygienic false
namespace Lm
section
variable {X : Cx} {tb : Tab} {n m : Nat} {sc : Scope} {ls ls' : Ls} {σ σ' σ1 σ2 σ3 : St} {c c' : Cfg} {A : Around} {env : Env} {s : Shared} {E : Value → Shared → Prop} {p q u : PV} {v : Value} {h h' : Heap} {I D : Addr} {pos fp apos : Pos}

noncomputable def nameOn (env : Env) (line : Nat) : Expr → Option Str
  | .Name id pos => if env.kindOf id == some .local && pos.line == line then some id else none
  | _ => none

theorem nameOn_eq {line : Nat} {t : Expr} {x : Str} (h : nameOn env line t = some x) : (∃ p, t = .Name x p) ∧ env.kindOf x = some .local := by
  cases t with
  | Name y p =>
    refine oI (show (if (env.kindOf y == some .local && p.line == line) = true then some y else none) = some x from h) fun hc h => ?_
    rw [← Option.some.inj h]
    exact ⟨⟨p, rfl⟩, beq_iff_eq.mp ((Bool.and_eq_true _ _).mp hc).1⟩
  | _ => exact nO h
theorem filterMap_all {α β : Type} (f : α → Option β) {l : List α} (h : (l.filterMap f).length = l.length) : l.map f = (l.filterMap f).map some := by
  induction l with
  | nil => rfl
  | cons x r ih =>
    rw [List.filterMap_cons] at h ⊢
    cases hx : f x with
    | none => rw [hx] at h; exact absurd (List.length_filterMap_le f r) (Nat.not_le.mpr (show r.length < (r.filterMap f).length from h ▸ Nat.lt_succ_self _))
    | some y =>
      rw [hx] at h
      rw [List.map_cons, hx, ih (Nat.succ.inj h)]; rfl

theorem dups_ne {l : List Str} (h2 : l.length = 2 ∨ l.length = 3) (h : l.eraseDups.length = l.length) : l.Nodup := by
  match l, h2 with
  | [a, b], _ =>
    by_cases hab : a = b
    · subst hab; simp [List.eraseDups_cons] at h
    · simp [hab]
  | [a, b, c], _ =>
    by_cases hab : a = b
    · subst hab
      by_cases hac : a = c
      · subst hac; simp [List.eraseDups_cons] at h
      · simp [List.eraseDups_cons, Ne.symm hac] at h
    · by_cases hac : a = c
      · subst hac; simp [List.eraseDups_cons, Ne.symm hab] at h
      · by_cases hbc : b = c
        · subst hbc; simp [List.eraseDups_cons, Ne.symm hab] at h
        · simp [hab, hac, hbc]

theorem or_no {a b : Bool} (h : ¬ (a || b) = true) : a = false ∧ b = false := by
  cases a <;> cases b <;> first | exact ⟨rfl, rfl⟩ | exact absurd rfl h
theorem swapped_cases {ts vs : List Expr} {k k' : Nat} {p p' : Pos} (hc : vs.all (constantsAlone 8) = false) : swappedStores [.Tuple ts k p] (.Tuple vs k' p') env = pure none ∨
    ∃ names line, swappedStores [.Tuple ts k p] (.Tuple vs k' p') env = pure (some names) ∧ names.length = ts.length ∧ names.Nodup ∧ ts.map (nameOn env line) = names.map some := by
  unfold swappedStores
  dsimp only
  split
  · exact .inl rfl
  · rename_i h1
    split
    · exact .inl rfl
    · split
      · exact .inl rfl
      · rename_i h3
        split
        · exact .inl rfl
        · rw [hc]
          obtain ⟨g1, g2⟩ := or_no h3
          have l1 := bne_eq_false_iff_eq.mp g1
          refine .inr ⟨_, (ts.head?.map (·.pos.line)).getD 0, rfl, l1, dups_ne ?_ (bne_eq_false_iff_eq.mp g2), ?_⟩
          · rw [l1]
            have := (Bool.or_eq_false_iff.mp (or_no h1).1).1
            rw [Bool.not_eq_false', Bool.or_eq_true, beq_iff_eq, beq_iff_eq] at this
            exact this
          · refine Eq.trans (List.map_congr_left fun t _ => ?_) (filterMap_all _ l1)
            cases t <;> rfl

theorem asgs_names {f : Expr → PV → Ls → St → Ls × St → Prop} (hf : ∀ {y py q ls σ r}, f (.Name y py) q ls σ r → r = (setL y q ls, σ)) {line : Nat} {ts : List Expr} {ps : List PV} {ls : Ls} {σ : St} {r : Ls × St} (h : asgsF f ts ps ls σ r) :
    ∀ {names : List Str}, ts.map (nameOn env line) = names.map some → r.2 = σ ∧ ps.length = names.length ∧ r.1 = setAll (List.zip names ps) ls := by
  induction h with
  | nil =>
    intro names hn
    rw [List.map_eq_nil_iff.mp hn.symm]; exact ⟨rfl, rfl, rfl⟩
  | cons _ h1 _ ih =>
    intro names hn
    cases names with
    | nil => cases hn
    | cons x names =>
      have hn := List.cons_eq_cons.mp hn
      obtain ⟨⟨py, rfl⟩, _⟩ := nameOn_eq hn.1
      cases hf h1
      obtain ⟨i1, i2, i3⟩ := ih hn.2
      exact ⟨i1, congrArg Nat.succ i2, i3⟩

theorem IsVs.rev {c : Cfg} {h : Heap} {ps : List PV} {vs : List Value} (f : IsVs X c h ps vs) : IsVs X c h ps.reverse vs.reverse := by
  induction ps generalizing vs with
  | nil => exact f.nilE .nil
  | cons p ps ih => exact f.consE fun v r f1 f2 => by rw [List.reverse_cons, List.reverse_cons]; exact (ih f2).append (.cons f1 .nil)

/-- a tuple display that goes to several names -/
theorem ex_assign_tup {ts es : List Expr} {ps : List PV} {k1 k2 : Nat} {q1 q2 : Pos} (hc : es.all (constantsAlone 8) = false) (he : EvOk X n sc (.Tuple es k2 q2) ls σ (.tup ps) σ1) (ha : AssOk X n sc ts ps ls σ1 ls' σ2) {f : Expr → PV → Ls → St → Ls × St → Prop} (hf : ∀ {y py q ls σ r}, f (.Name y py) q ls σ r → r = (setL y q ls, σ)) (hb : asgsF f ts ps ls σ1 (ls', σ2)) :
    ExOk X (n + 1) sc (.Assign [.Tuple ts k1 q1] (.Tuple es k2 q2) pos) ls σ (.next, ls', σ2) := fun c s A E env Q a k => by
  have a' := a.le (Nat.le_succ n)
  rcases swapped_cases (env := env) (ts := ts) (k := k1) (k' := k2) (p := q1) (p' := q2) hc with hw | ⟨names, line, hw, hlen, hnd, hmap⟩
  · refine assign_open rfl rfl hw (he c s A E env _ a' fun v c1 h1 tk1 R1 E1 v1 => ?_)
    refine as_tuple_tup ha c1 { s with heap := h1, toks := tk1 } A E env v _ (a'.next R1 E1) v1 fun c2 h2 tk2 R2 E2 F2 => ?_
    exact k .next c2 h2 tk2 R2 (Ext.trans a.rep (E1.weaken fun _ f => f.elim) E2) F2 .next
  · obtain ⟨rfl, hpl, rfl⟩ := asgs_names hf hb hmap
    refine Assign_Tuple_swapped (names := names) (he c s A E env _ a' fun v c1 h1 tk1 R1 E1 v1 => ?_) rfl hw
    refine v1.tupE fun b us mm h1' m1 f => ?_
    have hsz : us.size = _ := f.length
    rw [← hpl, ← hsz]
    refine wpAny_unpackItems_tuple a.room.hh (isTup h1') fun h2 eb => ?_
    have G : Gr h1 h2 := fun b o e => eb b o (fun z => by rw [z, get?_size] at e; exact nO e) e
    have R2 := R1.grow G
    have E2 : Ext c1 σ2 h1 c1 σ2 h2 NoZ := Ext.grow G
    have a2 := (a'.next R1 E1).next R2 E2
    have hz1 : (List.zip names ps).map (·.1) = names := List.map_fst_zip (Nat.le_of_eq hpl.symm)
    have hz2 : (List.zip names ps).map (·.2) = ps := List.map_snd_zip (Nat.le_of_eq hpl)
    have hloc : ∀ x ∈ (List.zip names ps).reverse, env.kindOf x.1 = some .local := fun x hx => by
      have hx1 : x.1 ∈ names := by rw [← hz1]; exact List.mem_map_of_mem (List.mem_reverse.mp hx)
      have : some x.1 ∈ ts.map (nameOn env line) := by rw [hmap]; exact List.mem_map_of_mem hx1
      obtain ⟨t, ht, he⟩ := List.mem_map.mp this
      exact (nameOn_eq he).2
    have := binds_ok (X := X) (A := A) (E := E) (l := (List.zip names ps).reverse) (ls := ls) c1 { s with heap := h2, toks := tk1 } us.toList.reverse (fun _ s' => Q .next s') hloc R2 a2.fok (by rw [List.map_reverse, hz2]; exact (f.gr G).rev) fun h3 tk3 R3 E3 F3 => by
      refine k .next c1 h3 tk3 R3 (Ext.trans a.rep (E1.weaken fun _ f => f.elim) (Ext.trans R1 (E2.weaken fun _ f => f.elim) E3)) (F3.congr fun j => setAll_rev (by rw [hz1]; exact hnd) ls j) .next
    have hm : (names.reverse.map fun n => bindName env n) = ((List.zip names ps).reverse.map fun x => bindName env x.1) := by
      have e1 : (List.zip names ps).reverse.map (·.1) = names.reverse := by rw [List.map_reverse, hz1]
      rw [← e1, List.map_map]; rfl
    rw [hm]
    exact this
end
end Lm
end
section
open PySem PySem.W PyProof.Rows
set_option Elab.async false
set_option autoImplicit false
set_option linter.unusedVariables false
set_option linter.unusedSectionVars false
set_option linter.unusedSimpArgs false
set_option tactic.hygienic false
namespace Lm
/-- what a comprehension's evaluation is made of -/
inductive CpParts (X : Cx) (n : Nat) (sc : Scope) (elt : Expr) (gens : List Comprehension) (scope : Scope) (pos : Pos) (ls : Ls) (σ : St) (p : PV) (σ2 : St) : Prop
  | mk (g : Comprehension) (gs : List Comprehension) (l : List PV) (loc : Option Loc) (σ1 : St) (turnF : PV → Ls → St → List PV × Ls × St → Prop) (r' : List PV × Ls × St) : gens = g :: gs → CompOk scope sc → g.is_async = 0 → (∀ g', (g :: gs)[0 + 1]? = some g' → g'.is_async = 0) → ItOk X n sc g.iter ls σ l loc σ1 →
    (∀ {x ls σ r}, turnF x ls σ r → TnOk X n (compScope scope sc) elt (g :: gs) scope pos 0 g x ls σ r) → compF loc turnF σ1 l (compLs scope ls) σ1 r' → r'.1.length ≤ 1000000 → p = .lst r'.1 → σ2 = r'.2.2 → CpParts X n sc elt gens scope pos ls σ p σ2
section
variable {X : Cx} {tb : Tab} {n m : Nat} {sc : Scope} {ls ls' : Ls} {σ σ' σ1 σ2 σ3 : St} {c c' : Cfg} {A : Around} {env : Env} {s : Shared} {E : Value → Shared → Prop} {p q u : PV} {v : Value} {h h' : Heap} {I D : Addr} {pos fp apos cpos xp : Pos}

theorem CpParts.ev {elt : Expr} {gens : List Comprehension} {scope : Scope} (C : CpParts X n sc elt gens scope pos ls σ p σ1) : EvOk X (n + 1) sc (.ListComp elt gens scope pos) ls σ p σ1 := by
  obtain ⟨g, gs, l, loc, σ0, turnF, r', rfl, K, ha, hn, hit, hturn, hl, hsz, rfl, rfl⟩ := C
  exact ev_comp K ha hn hit hturn hl hsz
theorem CpParts.le {elt : Expr} {gens : List Comprehension} {scope : Scope} (C : CpParts X n sc elt gens scope pos ls σ p σ1) (hm : n ≤ m) : CpParts X m sc elt gens scope pos ls σ p σ1 := by
  obtain ⟨g, gs, l, loc, σ0, turnF, r', rfl, K, ha, hn, hit, hturn, hl, hsz, rfl, rfl⟩ := C
  exact ⟨g, gs, l, loc, σ0, turnF, r', rfl, K, ha, hn, hit.le hm, fun h => (hturn h).le hm, hl, hsz, rfl, rfl⟩

theorem ex_assign_comp {x : Str} {elt : Expr} {gens : List Comprehension} {scope : Scope} (C : CpParts X n sc elt gens scope cpos ls σ p σ1) (ha : AsOk X n sc (.Name x xp) p ls σ1 ls' σ2) :
    ExOk X (n + 1) sc (.Assign [.Name x xp] (.ListComp elt gens scope cpos) pos) ls σ (.next, ls', σ2) := fun c s A E env Q a k => by
  have a1 := a
  have a0 := a.le (m := n) (Nat.le_succ n)
  obtain ⟨b, hb⟩ : ∃ b, swapsWith (.ListComp elt gens scope cpos) (some (.Name x xp)) pos.line env = pure b := ⟨_, rfl⟩
  cases b with
  | false =>
    refine assign_open rfl hb rfl (C.ev c s A E env _ a1 fun v c1 h1 tk1 R1 E1 v1 => ?_)
    refine ha c1 { s with heap := h1, toks := tk1 } A E env v _ (a0.next R1 E1) v1 fun c2 h2 tk2 R2 E2 F2 => ?_
    exact k .next c2 h2 tk2 R2 (Ext.trans a.rep (E1.weaken fun _ f => f.elim) E2) F2 .next
  | true =>
    obtain ⟨g, gs, l, loc, σ0, turnF, r', rfl, K, has, hn, hit, hturn, hl, hsz, rfl, rfl⟩ := C
    obtain ⟨t, it, ifs, as⟩ := g
    have has' : as = 0 := has
    subst has'
    rw [exec_Assign_arm]
    refine wpAny_bind (wpAny_standAt ?_)
    have hs' : swapsWithSole [.Name x xp] (.ListComp elt (⟨t, it, ifs, 0⟩ :: gs) scope cpos) pos.line env = pure true := hb
    rw [hs']
    refine wpAny_bind (wpAny_pure (bm_if_true rfl ?_))
    show wpAny _ A ((do let _ ← comprehension (.ListComp elt (⟨t, it, ifs, 0⟩ :: gs) scope cpos) scope env _ (newList []) false (eval it env) (some (assign (.Name x xp) env))) >>= fun _ => pure Flow.next) _ _ s
    refine wpAny_bind (wpAny_bind (wpAny_mono (wpAny_comprehension_free (use := some (assign (.Name x xp) env)) (Q := fun _ s' => Q .next s') rfl (hit.1 env) (compOk_clos K a.fok a.scope) K.kind (compOk_names K)
      (comp_core (r := r') K a0 rfl hn hit hturn hl hsz fun D C c' h' tk R' E' hv hns hC hne MC WC => ?_)) (fun _ s' hq => wpAny_pure (wpAny_pure hq)) fun _ _ e => e))
    show wpAny _ A (assign (.Name x xp) env (.ref D)) _ _ _
    refine ha c' { s with heap := h', toks := tk } A E env (.ref D) _ (a0.next R' E') hv fun c2 h2 tk2 R2 E2 F2 => ?_
    have fC : ¬ Fa env C := fun f => (a.rep.up C (a.fok.fa C f).1).no hC
    obtain ⟨mm, hm⟩ := hns
    refine ⟨mm, hm.at' fun o e => E2.keep _ _ e WC fC, fun h3 sb => ?_⟩
    have hk : ∀ b o, b ≠ C → h2.get? b = some o → h3.get? b = some o := fun b o ne e => (sb.2 b ne).trans e
    have M2 : c2.M C := E2.m2 C MC WC
    have W2 : ¬ Wr c2 σ2 C := fun w => (E2.wr C w).elim WC fun z => by
      obtain ⟨o, es, ep, ho, _⟩ := hm
      exact Live.no ⟨_, ho⟩ z
    have E3 := Ext.trans a.rep (E'.weaken (Z' := Fa env) fun _ f => f.elim) E2
    exact k .next (c2.drop C) h3 tk2 (R2.doneI M2 W2 hk) (Ext.doneI a.rep (E3.weaken fun _ z => .inl z) hC hk) (F2.doneI M2 hk fun b f z => fC (z ▸ f)) .next
end

structure More (X : Cx) (tb : Tab) (n : Nat) : Prop where
  itr : ∀ {sc e ls σ r}, itr tb n sc e ls σ r → ItOk X n sc e ls σ r.1 r.2.1 r.2.2
  trnL : ∀ {sc g elt x ls σ r}, turn tb n sc g (.inl elt) x ls σ r → ∀ (gens : List Comprehension) scope pos depth, gens[depth + 1]? = none → TnOk X n sc elt gens scope pos depth g x ls σ r
  trnR : ∀ {sc g g2 elt x ls σ r}, turn tb n sc g (.inr (g2, elt)) x ls σ r → g2.is_async = 0 → ∀ (gens : List Comprehension) scope pos depth, gens[depth + 1]? = some g2 → gens[depth + 1 + 1]? = none → TnOk X n sc elt gens scope pos depth g x ls σ r
  inst : ∀ {C fz ps σ r}, tb.cls C = some fz → inst tb n C ps σ r → InOk X n C ps σ r.1 r.2
  name : ∀ {sc y py q ls σ r}, asg tb n sc (.Name y py) q ls σ r → r = (setL y q ls, σ)

section
variable {X : Cx} {tb : Tab} {n m : Nat} {sc : Scope} {ls ls' : Ls} {σ σ' σ1 σ2 σ3 : St}
theorem st_evO (S : Snd X tb n) {e : Option Expr} {j : Option Int} (h0 : EvOR (EV tb n) sc ls σ e (j, σ1)) : EvOOk X n sc e ls σ j σ1 := by
  generalize hr : (j, σ1) = r at h0
  induction h0 with
  | none => cases hr; exact evO_none
  | some h => cases hr; exact evO_some (S.ev h)
theorem st_itr (W : Wd X) (T : TabOk X tb) (S : Snd X tb n) {e : Expr} {r : List PV × Option Loc × St} (h0 : itr tb (n + 1) sc e ls σ r) : ItOk X (n + 1) sc e ls σ r.1 r.2.1 r.2.2 := by
  have h0 : ItrR (EV tb n) sc ls σ e r := h0
  induction h0 with
  | range hg h hl => exact it_range W T S hg h hl
  | ev h hi => exact it_ev W S h hi
theorem st_trnL (S : Snd X tb n) {g : Comprehension} {elt : Expr} {x : PV} {r : List PV × Ls × St} (h0 : turn tb (n + 1) sc g (.inl elt) x ls σ r) (gens : List Comprehension) (scope : Scope) (pos : Pos) (depth : Nat) (hg : gens[depth + 1]? = none) :
    TnOk X (n + 1) sc elt gens scope pos depth g x ls σ r := by
  cases (show TurnR (EV tb n) sc ls σ g x (.inl elt) r from h0) with
  | yes h1 h2 h3 => exact turn_last hg h1 h2 S h3
  | no h1 h2 => exact turn_no h1 h2 S
theorem st_trnR (S : Snd X tb n) (M : More X tb n) {g g2 : Comprehension} {elt : Expr} {x : PV} {r : List PV × Ls × St} (h0 : turn tb (n + 1) sc g (.inr (g2, elt)) x ls σ r) (ha : g2.is_async = 0) (gens : List Comprehension) (scope : Scope) (pos : Pos) (depth : Nat) (hg : gens[depth + 1]? = some g2) (hg2 : gens[depth + 1 + 1]? = none) :
    TnOk X (n + 1) sc elt gens scope pos depth g x ls σ r := by
  cases (show TurnR (EV tb n) sc ls σ g x (.inr (g2, elt)) r from h0) with
  | no h1 h2 => exact turn_no h1 h2 S
  | deep h1 h2 h3 h4 => exact turn_deep hg ha (fun g' e => nO (hg2.symm.trans e)) S h1 h2 (fun h => M.trnL h gens scope pos (depth + 1) hg2) (M.itr h3) h4
theorem st_comp (M : More X tb n) {elt : Expr} {gens : List Comprehension} {scope : Scope} {pos : Pos} {r : PV × St} (h : CompR (EV tb n) sc ls σ elt gens scope r) : CpParts X n sc elt gens scope pos ls σ r.1 r.2 := by
  induction h with
  | one hc ha hi hl hz => exact ⟨_, [], _, _, _, _, _, rfl, compOk_of hc, ha, fun g' e => nO e, M.itr hi, fun h => M.trnL h _ _ _ _ rfl, hl, hz, rfl, rfl⟩
  | two hc ha ha2 hi hl hz => exact ⟨_, [_], _, _, _, _, _, rfl, compOk_of hc, ha, fun g' e => (Option.some.inj e ▸ ha2), M.itr hi, fun h => M.trnR h ha2 _ _ _ _ rfl rfl, hl, hz, rfl, rfl⟩
end
end Lm
end
section
open PySem PySem.W PyProof.Rows
set_option Elab.async false
set_option autoImplicit false
set_option linter.unusedVariables false
set_option linter.unusedSectionVars false
set_option linter.unusedSimpArgs false
set_option tactic.hygienic false
namespace Lm
section
variable {X : Cx} {tb : Tab} {n m : Nat} {sc : Scope} {ls ls' : Ls} {σ σ' σ1 σ2 σ3 : St}

theorem Snd.e (S : Snd X tb n) {e : Expr} {p : PV} (h : (EV tb n).ev sc e ls σ (p, σ1)) : EvOk X n sc e ls σ p σ1 := S.ev h
theorem st_ev (W : Wd X) (T : TabOk X tb) (S : Snd X tb n) (M : More X tb n) {e : Expr} {r : PV × St} (h0 : ev tb (n + 1) sc e ls σ r) : EvOk X (n + 1) sc e ls σ r.1 r.2 := by
  have h0 : EvR tb (EV tb n) sc ls σ e r := h0
  induction h0 with
  | none => exact ev_const_none
  | bool => exact ev_const_bool
  | int => exact ev_const_int
  | str => exact ev_const_str
  | bytes => exact ev_const_bytes
  | var h1 h2 h3 => exact ev_name_var h1 h2 h3
  | cst h1 h2 h3 => exact ev_name_cst W T h1 h2 h3
  | bin h1 h2 h3 => exact ev_binop (S.e h1) (S.e h2) h3
  | neg => exact ev_neg
  | one h => exact ev_bool_one (S.e h)
  | go h hc h2 => exact ev_bool_cons (S.e h) (fun _ => S.ev h2) fun e => bT (hc.symm.trans e)
  | stop h hc => exact ev_bool_cons (S.e h) (fun e => bF (hc.symm.trans e)) fun _ => ⟨rfl, rfl⟩
  | ifT h h2 => exact ev_ifexp (S.tr h) (fun _ => S.ev h2) fun e => bT e
  | ifF h h2 => exact ev_ifexp (S.tr h) (fun e => bF e) fun _ => S.ev h2
  | list h => exact ev_list S h
  | listN h => exact ev_list_num S h
  | tuple h => exact ev_tuple S h
  | dict => exact ev_dict_di
  | dictN => exact ev_dict_dn
  | dict3 hn h1 h2 h3 => exact ev_dict3 W hn (S.e h1) (S.e h2) (S.e h3)
  | cmp h1 h2 h3 => exact ev_cmp W (S.e h1) (S.e h2) (marks_no h2) h3
  | attr hb h1 h2 => exact ev_attr W T hb (S.e h1) h2
  | sub h1 h2 h3 => exact ev_sub (S.e h1) (S.e h2) h3
  | slc h1 h2 h3 h4 => exact ev_slice (S.e h1) (st_evO S h2) (st_evO S h3) h4
  | comp h => exact (st_comp M h).ev
  | mOwn h1 h2 h3 h4 h5 h6 h7 => exact ev_mcall_own W T S h1 h2 h3 h4 h5 h6 h7
  | mBi h1 h2 h3 h4 h5 h6 h7 => exact ev_mcall_bi W S h1 h2 h3 h4 h5 h6 h7
  | call h1 h2 h3 h4 h5 => exact ev_call_fn W T S h1 h2 h3 h4 h5
  | inst h1 h2 h3 h4 h5 => exact ev_call_cls W T S h1 h2 h3 h4 (M.inst h3 h5)
  | sorted h1 h2 h3 => exact ev_call_sorted W T S h1 (by decide) h2 h3
  | bi h1 h2 h3 h4 h5 => exact ev_call_bi W T S h1 h2 h3 h4 h5

theorem st_tr (W : Wd X) (S : Snd X tb n) {e : Expr} {r : Bool × St} (h0 : tr tb (n + 1) sc e ls σ r) : TrOk X (n + 1) sc e ls σ r.1 r.2 := by
  have h0 : TrR (EV tb n) sc ls σ e r := h0
  induction h0 with
  | not h => exact tr_not (S.tr h)
  | nil => exact tr_bool_nil
  | @go op x es pos b s1 r h hc h2 => exact tr_bool_cons (S.tr h) (pos' := pos) (fun _ => S.tr h2) fun e => bT (hc.symm.trans e)
  | @stop op x es pos b s1 h hc => exact tr_bool_cons (S.tr h) (pos' := pos) (fun e => bF (hc.symm.trans e)) fun _ => ⟨rfl, rfl⟩
  | cmp h1 h2 h3 => exact tr_cmp W (S.e h1) (S.e h2) (marks_no h2) h3
  | cmp2 h1 h2 h3 h4 h5 => exact tr_chain W (S.e h1) (S.e h2) h3 (fun _ => ⟨S.e h4, marks_no h4, h5⟩) fun e => bT e
  | cmp0 h1 h2 h3 => exact tr_chain (u := .none) W (S.e h1) (S.e h2) h3 (fun e => bF e) fun _ => ⟨rfl, rfl⟩
  | val hp h => exact tr_value (S.e h) hp

theorem st_asg (W : Wd X) (T : TabOk X tb) (S : Snd X tb n) {t : Expr} {p : PV} {r : Ls × St} (h0 : asg tb (n + 1) sc t p ls σ r) : AsOk X (n + 1) sc t p ls σ r.1 r.2 := by
  have h0 : AsgR tb (EV tb n) sc ls σ p t r := h0
  induction h0 with
  | name h1 h2 => exact as_name h1 h2
  | attr h1 h2 => exact as_attr W T (S.e h1) h2
  | sub h1 h2 h3 => exact as_sub W (S.e h1) (S.e h2) h3
  | tup e h => subst e; exact (as_tuple_tup (asgs_ok (fun h => S.asg h) h)).le (Nat.le_succ n)
  | lst e h => subst e; exact (as_tuple_lst (asgs_ok (fun h => S.asg h) h)).le (Nat.le_succ n)
theorem st_name {y : Str} {py : Pos} {q : PV} {r : Ls × St} (h0 : asg tb n sc (.Name y py) q ls σ r) : r = (setL y q ls, σ) := by
  cases n with
  | zero => exact False.elim h0
  | succ n => cases (show AsgR tb (EV tb n) sc ls σ q (.Name y py) r from h0); rfl
end
end Lm
end
section
open PySem PySem.W PyProof.Rows
set_option Elab.async false
set_option autoImplicit false
set_option linter.unusedVariables false
set_option linter.unusedSectionVars false
set_option linter.unusedSimpArgs false
set_option tactic.hygienic false
namespace Lm
section
variable {X : Cx} {tb : Tab} {n m : Nat} {sc : Scope} {ls ls' : Ls} {σ σ' σ1 σ2 σ3 : St}

theorem tgt_mark {t e : Expr} (h : (kE t == 5 || kE t == 10 || kE t == 11 || (kE t == 4 && kE e != 4)) = true) : isMark t = false := by
  cases t <;> first | rfl | exact bF h
theorem tgt_swap {t e : Expr} (h : (kE t == 5 || kE t == 10 || kE t == 11 || (kE t == 4 && kE e != 4)) = true) (env : Env) : swappedStores [t] e env = pure none := by
  cases t with
  | Tuple ts k p => cases e <;> first | rfl | exact bF h
  | _ => first | rfl | exact bF h
theorem tgt_comp {t e : Expr} (h : (kE e == 1 && (kE t == 10 || kE t == 11)) = true) (l : Nat) (env : Env) : swapsWith e (some t) l env = pure false := by
  have h := (Bool.and_eq_true _ _).mp h
  cases e with
  | ListComp => cases t <;> first | exact bF h.2 | rfl
  | _ => exact bF h.1
theorem asg_plain {t e : Expr} {pos : Pos} {p : PV} (hp : asgPlain t e = true) (he : EvOk X n sc e ls σ p σ1) (ha : AsOk X n sc t p ls σ1 ls' σ2) : ExOk X (n + 1) sc (.Assign [t] e pos) ls σ (.next, ls', σ2) :=
  have hp := (Bool.and_eq_true _ _).mp hp
  ex_assign (tgt_mark hp.2) (fun env _ => ((Bool.or_eq_true _ _).mp hp.1).elim (fun h => swaps_no h _) fun h => tgt_comp h _ env) (tgt_swap hp.2) he ha
theorem for_tuple {t : Expr} (h : nameT t = true) (I : Addr) (w : Value) : letOwnedTupleGo t (.ref I) w = pure () := by
  cases t <;> first | rfl | exact bF h
theorem st_exc (W : Wd X) (T : TabOk X tb) (S : Snd X tb n) (M : More X tb n) {t : Stmt} {r : Fl × Ls × St} (h0 : exc tb (n + 1) sc t ls σ r) : ExOk X (n + 1) sc t ls σ r := by
  have sq : ∀ {ts ls σ r}, seqF ((EV tb n).exc sc) ts ls σ r → ExsOk X n sc ts ls σ r := fun h => seq_ok (fun h => S.exc h) h
  have h0 : ExcR (EV tb n) sc ls σ t r := h0
  induction h0 with
  | expr hc h => exact ex_expr hc (S.e h)
  | pass => exact ex_pass
  | brk => exact ex_break
  | cont => exact ex_continue
  | ret h => exact ex_ret (S.e h)
  | retF h hH => exact ex_ret_name (S.e h) hH
  | asg hp h1 h2 => exact asg_plain hp (S.e h1) (S.asg h2)
  | asgT hc h1 h2 => exact ex_assign_tup hc (S.e h1) (asgs_ok (fun h => S.asg h) h2) (fun h => M.name h) h2
  | asgC h1 h2 => exact ex_assign_comp (st_comp M h1) (S.asg h2)
  | ifT h1 h2 => exact ex_if (S.tr h1) (fun _ => sq h2) fun e => bT e
  | ifF h1 h2 => exact ex_if (S.tr h1) (fun e => bF e) fun _ => sq h2
  | whl h => exact while_ok (fun h => S.tr h) sq h
  | «for» hn hi h => exact exc_for (fun h => S.asg h) sq (for_tuple hn) (M.itr hi).1 (M.itr hi).2 h
  | «try» h => exact ex_try (sq h)
end

theorem all_ok {X : Cx} {tb : Tab} (W : Wd X) (T : TabOk X tb) (n : Nat) : Snd X tb n ∧ More X tb n := by
  induction n with
  | zero => exact ⟨⟨False.elim, False.elim, False.elim, False.elim, False.elim⟩, ⟨False.elim, fun h => False.elim h, fun h => False.elim h, fun _ h => False.elim h, fun h => False.elim h⟩⟩
  | succ n ih =>
    obtain ⟨S, M⟩ := ih
    exact ⟨⟨fun h => st_ev W T S M h, fun h => st_tr W S h, fun h => st_asg W T S h, fun h => st_exc W T S M h, fun h => call_ok W S h⟩,
      ⟨fun h => st_itr W T S h, fun h => st_trnL S h, fun h => st_trnR S M h, fun hC h => inst_ok W T S hC h, fun h => st_name h⟩⟩
end Lm
end
section
open PySem PySem.W PyProof.Rows
set_option Elab.async false
set_option autoImplicit false
set_option linter.unusedVariables false
set_option tactic.hygienic false
namespace Lm
noncomputable def noStmt : Stmt := .Pass ⟨0, 0, 0, 0⟩
noncomputable def stAt (i : Nat) : Stmt := match PySem.Challenge.pw_pc0382_01.main.body[i]? with
  | some s => s
  | none => noStmt
noncomputable def mtAt (i j : Nat) : Stmt := match stAt i with
  | .ClassDef _ _ _ body _ _ _ _ _ _ _ => (match body[j]? with
    | some s => s
    | none => noStmt)
  | _ => noStmt
noncomputable def fnBody : Stmt → List Stmt
  | .FunctionDef _ _ body _ _ _ _ _ _ _ => body
  | _ => []
noncomputable def fnScope : Stmt → Scope
  | .FunctionDef _ _ _ _ _ _ scope _ _ _ => scope
  | _ => ⟨.function, [], false, false, []⟩
noncomputable def fnPar : Stmt → List Str
  | .FunctionDef _ args _ _ _ _ _ _ _ _ => args.args.map (·.arg)
  | _ => []
noncomputable def F_put_number : Fn := { name := "put_number", params := fnPar (stAt 12), dflts := [], body := fnBody (stAt 12), scope := fnScope (stAt 12) }
noncomputable def F_get_number : Fn := { name := "get_number", params := fnPar (stAt 13), dflts := [], body := fnBody (stAt 13), scope := fnScope (stAt 13) }
noncomputable def F_put16 : Fn := { name := "put16", params := fnPar (stAt 14), dflts := [], body := fnBody (stAt 14), scope := fnScope (stAt 14) }
noncomputable def F_get16 : Fn := { name := "get16", params := fnPar (stAt 16), dflts := [], body := fnBody (stAt 16), scope := fnScope (stAt 16) }
noncomputable def F_row_octets : Fn := { name := "row_octets", params := fnPar (stAt 31), dflts := [], body := fnBody (stAt 31), scope := fnScope (stAt 31) }
noncomputable def F_sized_text : Fn := { name := "sized_text", params := fnPar (stAt 32), dflts := [], body := fnBody (stAt 32), scope := fnScope (stAt 32) }
noncomputable def F_packed_row : Fn := { name := "packed_row", params := fnPar (stAt 34), dflts := [], body := fnBody (stAt 34), scope := fnScope (stAt 34) }
noncomputable def F_check_order : Fn := { name := "check_order", params := fnPar (stAt 35), dflts := [], body := fnBody (stAt 35), scope := fnScope (stAt 35) }
noncomputable def F_pack_rows : Fn := { name := "pack_rows", params := fnPar (stAt 36), dflts := [], body := fnBody (stAt 36), scope := fnScope (stAt 36) }
noncomputable def F_read_first : Fn := { name := "read_first", params := fnPar (stAt 38), dflts := [], body := fnBody (stAt 38), scope := fnScope (stAt 38) }
noncomputable def F_read_row : Fn := { name := "read_row", params := fnPar (stAt 39), dflts := [], body := fnBody (stAt 39), scope := fnScope (stAt 39) }
noncomputable def F_unpack_rows : Fn := { name := "unpack_rows", params := fnPar (stAt 40), dflts := [], body := fnBody (stAt 40), scope := fnScope (stAt 40) }
noncomputable def F_with_time : Fn := { name := "with_time", params := fnPar (stAt 41), dflts := [], body := fnBody (stAt 41), scope := fnScope (stAt 41) }
noncomputable def F_law_pool : Fn := { name := "_law_pool", params := fnPar (stAt 51), dflts := [], body := fnBody (stAt 51), scope := fnScope (stAt 51) }
noncomputable def F_law_take : Fn := { name := "_law_take", params := fnPar (stAt 52), dflts := [], body := fnBody (stAt 52), scope := fnScope (stAt 52) }
noncomputable def F_law_one : Fn := { name := "_law_one", params := fnPar (stAt 53), dflts := [], body := fnBody (stAt 53), scope := fnScope (stAt 53) }
noncomputable def F_law_words : Fn := { name := "_law_words", params := fnPar (stAt 54), dflts := [], body := fnBody (stAt 54), scope := fnScope (stAt 54) }
noncomputable def F_law_call : Fn := { name := "_law_call", params := fnPar (stAt 55), dflts := [], body := fnBody (stAt 55), scope := fnScope (stAt 55) }
noncomputable def F_law_names : Fn := { name := "_law_names", params := fnPar (stAt 56), dflts := [], body := fnBody (stAt 56), scope := fnScope (stAt 56) }
noncomputable def F_law_due : Fn := { name := "_law_due", params := fnPar (stAt 57), dflts := [], body := fnBody (stAt 57), scope := fnScope (stAt 57) }
noncomputable def F_law_hurry : Fn := { name := "_law_hurry", params := fnPar (stAt 58), dflts := [], body := fnBody (stAt 58), scope := fnScope (stAt 58) }
noncomputable def F_law_sent : Fn := { name := "_law_sent", params := fnPar (stAt 59), dflts := [], body := fnBody (stAt 59), scope := fnScope (stAt 59) }
noncomputable def F_law_step_right : Fn := { name := "_law_step_right", params := fnPar (stAt 60), dflts := [], body := fnBody (stAt 60), scope := fnScope (stAt 60) }
noncomputable def F_law_second_right : Fn := { name := "_law_second_right", params := fnPar (stAt 61), dflts := [], body := fnBody (stAt 61), scope := fnScope (stAt 61) }
noncomputable def F_law_fixed_right : Fn := { name := "_law_fixed_right", params := fnPar (stAt 62), dflts := [], body := fnBody (stAt 62), scope := fnScope (stAt 62) }
noncomputable def F_law : Fn := { name := "law", params := fnPar (stAt 63), dflts := [], body := fnBody (stAt 63), scope := fnScope (stAt 63) }
noncomputable def M_Frame_init : Fn := { name := "__init__", params := fnPar (mtAt 10 0), dflts := [], body := fnBody (mtAt 10 0), scope := fnScope (mtAt 10 0) }
noncomputable def M_LldpTimes_init : Fn := { name := "__init__", params := fnPar (mtAt 46 0), dflts := [.int 30, .int 4, .int 1, .int 4], body := fnBody (mtAt 46 0), scope := fnScope (mtAt 46 0) }
noncomputable def M_LldpTimes_told_time : Fn := { name := "told_time", params := fnPar (mtAt 46 1), dflts := [], body := fnBody (mtAt 46 1), scope := fnScope (mtAt 46 1) }
noncomputable def M_Neighbour_init : Fn := { name := "__init__", params := fnPar (mtAt 47 0), dflts := [], body := fnBody (mtAt 47 0), scope := fnScope (mtAt 47 0) }
noncomputable def M_LldpPort_init : Fn := { name := "__init__", params := fnPar (mtAt 48 0), dflts := [], body := fnBody (mtAt 48 0), scope := fnScope (mtAt 48 0) }
noncomputable def M_LldpPort_hurry : Fn := { name := "hurry", params := fnPar (mtAt 48 1), dflts := [], body := fnBody (mtAt 48 1), scope := fnScope (mtAt 48 1) }
noncomputable def M_LldpPort_go_on : Fn := { name := "go_on", params := fnPar (mtAt 48 2), dflts := [], body := fnBody (mtAt 48 2), scope := fnScope (mtAt 48 2) }
noncomputable def M_LldpAgent_init : Fn := { name := "__init__", params := fnPar (mtAt 49 0), dflts := [.int 8], body := fnBody (mtAt 49 0), scope := fnScope (mtAt 49 0) }
noncomputable def M_LldpAgent_add_port : Fn := { name := "add_port", params := fnPar (mtAt 49 1), dflts := [], body := fnBody (mtAt 49 1), scope := fnScope (mtAt 49 1) }
noncomputable def M_LldpAgent_frame_of : Fn := { name := "frame_of", params := fnPar (mtAt 49 2), dflts := [], body := fnBody (mtAt 49 2), scope := fnScope (mtAt 49 2) }
noncomputable def M_LldpAgent_link_up : Fn := { name := "link_up", params := fnPar (mtAt 49 3), dflts := [], body := fnBody (mtAt 49 3), scope := fnScope (mtAt 49 3) }
noncomputable def M_LldpAgent_link_down : Fn := { name := "link_down", params := fnPar (mtAt 49 4), dflts := [], body := fnBody (mtAt 49 4), scope := fnScope (mtAt 49 4) }
noncomputable def M_LldpAgent_change : Fn := { name := "change", params := fnPar (mtAt 49 5), dflts := [], body := fnBody (mtAt 49 5), scope := fnScope (mtAt 49 5) }
noncomputable def M_LldpAgent_second : Fn := { name := "second", params := fnPar (mtAt 49 7), dflts := [], body := fnBody (mtAt 49 7), scope := fnScope (mtAt 49 7) }
noncomputable def M_LldpAgent_heard : Fn := { name := "heard", params := fnPar (mtAt 49 8), dflts := [], body := fnBody (mtAt 49 8), scope := fnScope (mtAt 49 8) }
noncomputable def M_LldpAgent_expire : Fn := { name := "expire", params := fnPar (mtAt 49 9), dflts := [], body := fnBody (mtAt 49 9), scope := fnScope (mtAt 49 9) }
noncomputable def M_LldpAgent_neighbours_of : Fn := { name := "neighbours_of", params := fnPar (mtAt 49 10), dflts := [], body := fnBody (mtAt 49 10), scope := fnScope (mtAt 49 10) }
noncomputable def fnL : List (Str × Fn) := [("put_number", F_put_number), ("get_number", F_get_number), ("put16", F_put16), ("get16", F_get16), ("row_octets", F_row_octets), ("sized_text", F_sized_text), ("packed_row", F_packed_row), ("check_order", F_check_order), ("pack_rows", F_pack_rows), ("read_first", F_read_first), ("read_row", F_read_row), ("unpack_rows", F_unpack_rows), ("with_time", F_with_time), ("_law_pool", F_law_pool), ("_law_take", F_law_take), ("_law_one", F_law_one), ("_law_words", F_law_words), ("_law_call", F_law_call), ("_law_names", F_law_names), ("_law_due", F_law_due), ("_law_hurry", F_law_hurry), ("_law_sent", F_law_sent), ("_law_step_right", F_law_step_right), ("_law_second_right", F_law_second_right), ("_law_fixed_right", F_law_fixed_right), ("law", F_law)]
noncomputable def mtL : List (Str × List (Str × Fn)) := [("Frame", [("__init__", M_Frame_init)]), ("LldpTimes", [("__init__", M_LldpTimes_init), ("told_time", M_LldpTimes_told_time)]), ("Neighbour", [("__init__", M_Neighbour_init)]), ("LldpPort", [("__init__", M_LldpPort_init), ("hurry", M_LldpPort_hurry), ("go_on", M_LldpPort_go_on)]), ("LldpAgent", [("__init__", M_LldpAgent_init), ("add_port", M_LldpAgent_add_port), ("frame_of", M_LldpAgent_frame_of), ("link_up", M_LldpAgent_link_up), ("link_down", M_LldpAgent_link_down), ("change", M_LldpAgent_change), ("second", M_LldpAgent_second), ("heard", M_LldpAgent_heard), ("expire", M_LldpAgent_expire), ("neighbours_of", M_LldpAgent_neighbours_of)])]
noncomputable def csL : List (Str × PV) := [("TYPE_END", .int 0), ("TYPE_CHASSIS", .int 1), ("TYPE_PORT", .int 2), ("TYPE_TIME", .int 3), ("MOST_ROW", .int 511), ("MOST_TEXT", .int 255), ("MOST_NUMBER", .int 65535), ("NEAREST_BRIDGE", .int 1652522221582), ("LLDP_KIND", .int 35020), ("MOST_TIME", .int 65535), ("FIRST_WORDS", .tup [.str "chassis", .str "port", .str "time"]), ("TEXT_TYPES", .dcs ["port text", "name", "system text"] [.int 4, .int 5, .int 6])]
noncomputable def clL : List (Str × Bool) := [("Frame", true), ("LldpTimes", true), ("Neighbour", true), ("LldpPort", false), ("LldpAgent", true)]
noncomputable def plL : List (Str × List Str) := [("LldpAgent", ["mac", "times", "most", "ports"]), ("LldpPort", ["rows", "is_up", "wait", "fast", "neighbours"]), ("Neighbour", ["rows", "until"]), ("LldpTimes", ["interval", "hold", "fast_interval", "fast_many"]), ("Frame", ["target", "source", "tags", "kind", "payload"])]
noncomputable def tbl : Tab where
  fn := fun x => fnL.lookup x
  cls := fun x => clL.lookup x
  meth := fun C x => (mtL.lookup C).bind fun l => l.lookup x
  cst := fun x => csL.lookup x
  plain := fun C x => match plL.lookup C with
    | some l => l.contains x
    | none => false
end Lm
end
section
open PySem PySem.W PyProof.Rows
set_option Elab.async false
set_option autoImplicit false
set_option linter.unusedVariables false
set_option linter.unusedSimpArgs false
set_option maxRecDepth 100000
set_option tactic.hygienic false
namespace Lm
noncomputable def W {α : Type} (x : α → Prop) (Q : α → Prop) : Prop := ∃ a, x a ∧ Q a
theorem W_imp {α : Type} {x : α → Prop} {P Q : α → Prop} (h : W x P) (k : ∀ a, P a → Q a) : W x Q := let ⟨a, e, p⟩ := h; ⟨a, e, k a p⟩

-- expressions that read alone: their values, by a function
noncomputable def cstO : Const → Option PV
  | .none => some .none
  | .bool b => some (.bool b)
  | .int i => some (.int i)
  | .str x => some (.str x)
  | .bytes b => some (.bytes b.toArray)
  | _ => none
noncomputable def nameO (sc : Scope) (x : Str) (ls : Ls) : Option PV := if plainN x then (if isVar sc x then getV x ls else if isGlob sc x then tbl.cst x else none) else none
noncomputable def negO : UnaryOp → Expr → Option PV
  | .USub, .Constant (.int i) _ _ => some (.int (-i))
  | _, _ => none
noncomputable def pvs (f : Expr → Option PV) : List Expr → Option (List PV)
  | [] => some []
  | e :: es => (f e).bind fun p => (pvs f es).bind fun ps => if ps.length ≤ 1000 then some (p :: ps) else none
noncomputable def pvO (f : Expr → Option PV) : Option Expr → Option (Option Int)
  | none => some none
  | some e => (f e).bind fun p => match p with
    | .int i => some (some i)
    | _ => none
noncomputable def cmpO (ops : List CmpOp) (rs : List Expr) : Option (CmpOp × Expr) := (oneO ops).bind fun op => (oneO rs).bind fun r => some (op, r)
noncomputable def slcO : Expr → Option (Option Expr × Option Expr)
  | .Slice lo hi none _ => some (lo, hi)
  | _ => none
noncomputable def calO : Expr → List Keyword → Option Str
  | .Name f _, [] => some f
  | _, _ => none
noncomputable def pv : Nat → Scope → Ls → St → Expr → Option PV
  | 0, _, _, _, _ => none
  | n + 1, sc, ls, σ, e => match e with
    | .Constant c _ _ => cstO c
    | .Name x _ => nameO sc x ls
    | .BinOp l op r _ => (pv n sc ls σ l).bind fun a => (pv n sc ls σ r).bind fun b => binop op a b
    | .UnaryOp op e _ => negO op e
    | .List es _ => (pvs (pv n sc ls σ) es).map .lst
    | .Tuple es _ _ => (pvs (pv n sc ls σ) es).map .tup
    | .Compare l ops rs _ => (cmpO ops rs).bind fun x => (pv n sc ls σ l).bind fun a => (pv n sc ls σ x.2).bind fun b => (cmpc σ x.1 a b).map .bool
    | .Attribute o x _ => if plainBase o then (pv n sc ls σ o).bind fun a => attrv tbl σ a x else none
    | .Subscript o i _ => (pv n sc ls σ o).bind fun a => match slcO i with
      | some x => (pvO (pv n sc ls σ) x.1).bind fun l => (pvO (pv n sc ls σ) x.2).bind fun h => slcS σ a l h
      | none => (pv n sc ls σ i).bind fun b => subv σ a b
    | .Call f args ks _ => (calO f ks).bind fun x => if isGlob sc x && plainN x then (biOf x).bind fun b => (pvs (pv n sc ls σ) args).bind fun l => bcall σ b l else none
    | _ => none
theorem bE {α β : Type} {x : Option α} {f : α → Option β} {b : β} {C : Prop} (h : x.bind f = some b) (k : ∀ a, x = some a → f a = some b → C) : C := by
  cases x with
  | none => exact nO h
  | some a => exact k a rfl h
theorem mE {α β : Type} {x : Option α} {f : α → β} {b : β} {C : β → Prop} (h : x.map f = some b) (k : ∀ a, x = some a → C (f a)) : C b := by
  cases x with
  | none => exact nO h
  | some a => cases h; exact k a rfl
theorem iE {α : Type} {c : Prop} [Decidable c] {x : Option α} {b : α} {C : Prop} (h : (if c then x else none) = some b) (k : c → x = some b → C) : C := by
  by_cases hc : c
  · rw [if_pos hc] at h; exact k hc h
  · rw [if_neg hc] at h; exact nO h

-- tests that read alone
noncomputable def opB (op : BoolOp) (a b : Bool) : Bool := match op with
  | .And => a && b
  | .Or => a || b
noncomputable def unO {α : Type} : List α → Option (α × List α)
  | [] => none
  | a :: l => some (a, l)
noncomputable def cmp2O (ops : List CmpOp) (rs : List Expr) : Option ((CmpOp × Expr) × CmpOp × Expr) := (unO ops).bind fun a => (oneO a.2).bind fun o2 => (unO rs).bind fun b => (oneO b.2).bind fun r2 => some ((a.1, b.1), o2, r2)
noncomputable def boolO : PV → Option Bool
  | .bool b => some b
  | _ => none
noncomputable def pt : Nat → Scope → Ls → St → Expr → Option Bool
  | 0, _, _, _, _ => none
  | n + 1, sc, ls, σ, e => match e with
    | .UnaryOp op x _ => match op with
      | .Not => (pt n sc ls σ x).map not
      | _ => none
    | .BoolOp op es pos => match es with
      | [] => some (op == .And)
      | x :: es => (pt n sc ls σ x).bind fun a => (pt n sc ls σ (.BoolOp op es pos)).map fun b => opB op a b
    | .Compare l ops rs _ => match cmpO ops rs with
      | some x => (pv n sc ls σ l).bind fun a => (pv n sc ls σ x.2).bind fun b => cmpc σ x.1 a b
      | none => (cmp2O ops rs).bind fun x => (pv n sc ls σ l).bind fun a => (pv n sc ls σ x.1.2).bind fun b => (cmpc σ x.1.1 a b).bind fun c => (pv n sc ls σ x.2.2).bind fun d => (cmpc σ x.2.1 b d).map fun y => c && y
    | e => if plainTest e then (pv n sc ls σ e).bind boolO else none
section
variable {n : Nat} {sc : Scope} {ls : Ls} {σ : St}
theorem pvs_ok {f : Expr → Option PV} {g : Expr → St → PV × St → Prop} (hf : ∀ {e p}, f e = some p → g e σ (p, σ)) : ∀ {es : List Expr} {ps : List PV}, pvs f es = some ps → evs g es σ (ps, σ)
  | [], _, h => by cases h; exact .nil
  | e :: es, _, h => bE h fun p h1 h => bE h fun ps h2 h => iE h fun hl h => by cases h; exact .cons (hf h1) (pvs_ok hf h2) hl
theorem pvO_ok {o : Option Expr} {j : Option Int} (hf : ∀ {e p}, pv n sc ls σ e = some p → ev tbl n sc e ls σ (p, σ)) (h : pvO (pv n sc ls σ) o = some j) : EvOR (EV tbl n) sc ls σ o (j, σ) := by
  cases o with
  | none => cases h; exact EvOR.none
  | some e => exact bE h fun p h1 h => by cases p <;> first | exact nO h | (cases h; exact EvOR.some (hf h1))
theorem unO_eq {α : Type} {l : List α} {a : α × List α} (h : unO l = some a) : l = a.1 :: a.2 := by
  cases l with
  | nil => exact nO h
  | cons b l => cases h; rfl
theorem cmpO_eq {ops : List CmpOp} {rs : List Expr} {x : CmpOp × Expr} (h : cmpO ops rs = some x) : ops = [x.1] ∧ rs = [x.2] :=
  bE h fun _ h1 h => bE h fun _ h2 h => by cases h; exact ⟨oneO_eq h1, oneO_eq h2⟩
theorem cmp2O_eq {ops : List CmpOp} {rs : List Expr} {x : (CmpOp × Expr) × CmpOp × Expr} (h : cmp2O ops rs = some x) : ops = [x.1.1, x.2.1] ∧ rs = [x.1.2, x.2.2] :=
  bE h fun _ h1 h => bE h fun _ h2 h => bE h fun _ h3 h => bE h fun _ h4 h => by cases h; rw [unO_eq h1, unO_eq h3, oneO_eq h2, oneO_eq h4]; exact ⟨rfl, rfl⟩
theorem slcO_eq {e : Expr} {x : Option Expr × Option Expr} (h : slcO e = some x) : ∃ p, e = .Slice x.1 x.2 none p := by
  cases e with
  | Slice lo hi st p => cases st with
    | none => cases h; exact ⟨_, rfl⟩
    | some => exact nO h
  | _ => exact nO h
theorem calO_eq {e : Expr} {ks : List Keyword} {x : Str} (h : calO e ks = some x) : ∃ p, e = .Name x p ∧ ks = [] := by
  cases e with
  | Name => cases ks with
    | nil => cases h; exact ⟨_, rfl, rfl⟩
    | cons => exact nO h
  | _ => exact nO h
theorem negO_eq {op : UnaryOp} {e : Expr} {p : PV} (h : negO op e = some p) : ∃ i k q, op = .USub ∧ e = .Constant (.int i) k q ∧ p = .int (-i) := by
  cases op with
  | USub => cases e with
    | Constant c k q => cases c with
      | int => cases h; exact ⟨_, _, _, rfl, rfl, rfl⟩
      | _ => exact nO h
    | _ => exact nO h
  | _ => exact nO h
theorem pv_ok : ∀ (n : Nat) {e : Expr} {p : PV}, pv n sc ls σ e = some p → ev tbl n sc e ls σ (p, σ)
  | 0, _, _, h => nO h
  | n + 1, e, p, h => by
    have ih := fun {e p} => @pv_ok n e p
    cases e with
    | Constant c k pos => cases c <;> first | exact nO h | (cases h; constructor)
    | Name x pos =>
      refine iE (x := if isVar sc x then getV x ls else if isGlob sc x then tbl.cst x else none) h fun hp h => ?_
      by_cases hv : isVar sc x = true
      · rw [if_pos hv] at h; exact EvR.var hv hp h
      · rw [if_neg hv] at h; exact iE h fun hg h => EvR.cst hg hp h
    | BinOp l op r pos => exact bE h fun a h1 h => bE h fun b h2 h => EvR.bin (ih h1) (ih h2) h
    | UnaryOp op e pos => obtain ⟨i, k, q, rfl, rfl, rfl⟩ := negO_eq h; exact EvR.neg
    | List es pos => exact mE (C := fun p => ev tbl (n + 1) sc _ ls σ (p, σ)) h fun ps h => EvR.list (pvs_ok ih h)
    | Tuple es k pos => exact mE (C := fun p => ev tbl (n + 1) sc _ ls σ (p, σ)) h fun ps h => EvR.tuple (pvs_ok ih h)
    | Compare l ops rs pos =>
      refine bE h fun x hx h => bE h fun a h1 h => bE h fun b h2 h5 => ?_
      obtain ⟨rfl, rfl⟩ := cmpO_eq hx
      exact mE (C := fun p => ev tbl (n + 1) sc _ ls σ (p, σ)) h5 fun c h => EvR.cmp (ih h1) (ih h2) h
    | Attribute o x pos => exact iE (x := (pv n sc ls σ o).bind fun a => attrv tbl σ a x) h fun hb h => bE h fun a h1 h => EvR.attr hb (ih h1) h
    | Subscript o i pos =>
      refine bE h fun a h1 h => ?_
      cases hs : slcO i with
      | none => rw [hs] at h; exact bE h fun b h2 h => EvR.sub (ih h1) (ih h2) h
      | some x =>
        rw [hs] at h
        obtain ⟨q, rfl⟩ := slcO_eq hs
        exact bE h fun l h2 h => bE h fun r h3 h => EvR.slc (ih h1) (pvO_ok ih h2) (pvO_ok ih h3) h
    | Call f args ks pos =>
      refine bE h fun x hx h => ?_
      obtain ⟨q, rfl, rfl⟩ := calO_eq hx
      exact iE h fun hg h => bE h fun b hb h => bE h fun l hl h => EvR.bi hb ((Bool.and_eq_true _ _).mp hg).1 ((Bool.and_eq_true _ _).mp hg).2 (pvs_ok ih hl) h
    | _ => exact nO h
theorem pt_val {e : Expr} (hp : plainTest e = true) : pt (n + 1) sc ls σ e = (pv n sc ls σ e).bind boolO := by
  cases e <;> first | rfl | cases hp
theorem pt_ok : ∀ (n : Nat) {e : Expr} {b : Bool}, pt n sc ls σ e = some b → tr tbl n sc e ls σ (b, σ)
  | 0, _, _, h => nO h
  | n + 1, e, p, h => by
    have ih := fun {e p} => @pt_ok n e p
    by_cases hp : plainTest e = true
    · rw [pt_val hp] at h
      exact bE h fun q h1 h => by cases q <;> first | exact nO h | (cases h; exact TrR.val hp (pv_ok n h1))
    cases e with
    | UnaryOp op x pos => cases op <;> first | exact nO h | exact mE (C := fun p => tr tbl (n + 1) sc _ ls σ (p, σ)) h fun b h => TrR.not (ih h)
    | BoolOp op es pos =>
      cases es with
      | nil => cases h; exact TrR.nil
      | cons x es =>
        refine bE h fun a h1 h => mE (C := fun p => tr tbl (n + 1) sc _ ls σ (p, σ)) h fun b h5 => ?_
        cases op <;> cases a
        · exact TrR.stop (ih h1) rfl
        · exact TrR.go (ih h1) rfl (ih h5)
        · exact TrR.go (ih h1) rfl (ih h5)
        · exact TrR.stop (ih h1) rfl
    | Compare l ops rs pos =>
      change (match cmpO ops rs with
        | some x => (pv n sc ls σ l).bind fun a => (pv n sc ls σ x.2).bind fun b => cmpc σ x.1 a b
        | none => (cmp2O ops rs).bind fun x => (pv n sc ls σ l).bind fun a => (pv n sc ls σ x.1.2).bind fun b => (cmpc σ x.1.1 a b).bind fun c => (pv n sc ls σ x.2.2).bind fun d => (cmpc σ x.2.1 b d).map fun y => c && y) = some p at h
      cases hc : cmpO ops rs with
      | some x =>
        rw [hc] at h
        obtain ⟨rfl, rfl⟩ := cmpO_eq hc
        exact bE h fun a h1 h => bE h fun b h2 h => TrR.cmp (pv_ok n h1) (pv_ok n h2) h
      | none =>
        rw [hc] at h
        refine bE h fun x hx h => bE h fun a h1 h => bE h fun b h2 h => bE h fun c h3 h => bE h fun d h4 h5 => ?_
        obtain ⟨rfl, rfl⟩ := cmp2O_eq hx
        refine mE (C := fun p => tr tbl (n + 1) sc _ ls σ (p, σ)) h5 fun y h6 => ?_
        cases c with
        | true => exact TrR.cmp2 (pv_ok n h1) (pv_ok n h2) h3 (pv_ok n h4) h6
        | false => exact TrR.cmp0 (pv_ok n h1) (pv_ok n h2) h3
    | IfExp => exact nO h
    | _ => exact absurd rfl hp
end
end Lm
end
section
open PySem PySem.W PyProof.Rows
set_option Elab.async false
set_option autoImplicit false
set_option linter.unusedVariables false
set_option linter.unusedSimpArgs false
set_option maxRecDepth 100000
set_option tactic.hygienic false
namespace Lm
-- the walker: what a text leads to, with what is done next
noncomputable def E (n : Nat) (sc : Scope) (e : Expr) (ls : Ls) (σ : St) (K : PV → St → Prop) : Prop := ∃ p s, ev tbl n sc e ls σ (p, s) ∧ K p s
noncomputable def ES (n : Nat) (sc : Scope) (es : List Expr) (ls : Ls) (σ : St) (K : List PV → St → Prop) : Prop := ∃ p s, evs (fun e => ev tbl n sc e ls) es σ (p, s) ∧ K p s
noncomputable def T (n : Nat) (sc : Scope) (e : Expr) (ls : Ls) (σ : St) (K : Bool → St → Prop) : Prop := ∃ b s, tr tbl n sc e ls σ (b, s) ∧ K b s
noncomputable def IT (n : Nat) (sc : Scope) (e : Expr) (ls : Ls) (σ : St) (K : List PV → Option Loc → St → Prop) : Prop := ∃ l o s, itr tbl n sc e ls σ (l, o, s) ∧ K l o s
noncomputable def CO (n : Nat) (sc : Scope) (e : Expr) (gs : List Comprehension) (scope : Scope) (ls : Ls) (σ : St) (K : PV → St → Prop) : Prop := ∃ p s, CompR (EV tbl n) sc ls σ e gs scope (p, s) ∧ K p s
noncomputable def AG (n : Nat) (sc : Scope) (ts : List Expr) (ps : List PV) (ls : Ls) (σ : St) (K : Ls → St → Prop) : Prop := ∃ l s, asgsF (fun t v => asg tbl n sc t v) ts ps ls σ (l, s) ∧ K l s
noncomputable def SQ (n : Nat) (sc : Scope) (ts : List Stmt) (ls : Ls) (σ : St) (K : Fl → Ls → St → Prop) : Prop := ∃ x l s, seqF (exc tbl n sc) ts ls σ (x, l, s) ∧ K x l s
noncomputable def TU (n : Nat) (sc : Scope) (g : Comprehension) (k : Expr ⊕ (Comprehension × Expr)) (x : PV) (ls : Ls) (σ : St) (Z : List PV → Ls → St → Prop) : Prop := ∃ l l1 s, turn tbl n sc g k x ls σ (l, l1, s) ∧ Z l l1 s
noncomputable def CF (n : Nat) (sc : Scope) (g : Comprehension) (k : Expr ⊕ (Comprehension × Expr)) (o : Option Loc) (σ₀ : St) (xs : List PV) (ls : Ls) (σ : St) (Z : List PV → Ls → St → Prop) : Prop := ∃ l l1 s, compF o (turn tbl n sc g k) σ₀ xs ls σ (l, l1, s) ∧ Z l l1 s
noncomputable def LF (n : Nat) (sc : Scope) (t : Expr) (b : List Stmt) (o : Option Loc) (σ₀ : St) (xs : List PV) (ls : Ls) (σ : St) (K : Fl → Ls → St → Prop) : Prop := ∃ x l s, loopF o (asg tbl n sc t) (seqF (exc tbl n sc) b) σ₀ xs ls σ (x, l, s) ∧ K x l s
noncomputable def WF (n : Nat) (sc : Scope) (t : Expr) (b : List Stmt) (k : Nat) (ls : Ls) (σ : St) (K : Fl → Ls → St → Prop) : Prop := ∃ x l s, whileF (tr tbl n sc t) (seqF (exc tbl n sc) b) k ls σ (x, l, s) ∧ K x l s
@[reducible] def kU (K : PV → St → Prop) (r : PV × St) : Prop := match r with
  | (p, σ) => K p σ
@[reducible] def kBin2 (op : Operator) (K : PV → St → Prop) (a b : PV) (σ : St) : Prop := ∃ u, binop op a b = some u ∧ K u σ
@[reducible] def kBin (n : Nat) (sc : Scope) (op : Operator) (r : Expr) (ls : Ls) (K : PV → St → Prop) (a : PV) (σ : St) : Prop := E n sc r ls σ (kBin2 op K a)
@[reducible] def kCm2 (op : CmpOp) (K : PV → St → Prop) (a b : PV) (σ : St) : Prop := ∃ u, cmpc σ op a b = some u ∧ K (.bool u) σ
@[reducible] def kCm (n : Nat) (sc : Scope) (op : CmpOp) (r : Expr) (ls : Ls) (K : PV → St → Prop) (a : PV) (σ : St) : Prop := E n sc r ls σ (kCm2 op K a)
@[reducible] def kTc2 (op : CmpOp) (K : Bool → St → Prop) (a b : PV) (σ : St) : Prop := ∃ u, cmpc σ op a b = some u ∧ K u σ
@[reducible] def kTc (n : Nat) (sc : Scope) (op : CmpOp) (r : Expr) (ls : Ls) (K : Bool → St → Prop) (a : PV) (σ : St) : Prop := E n sc r ls σ (kTc2 op K a)
@[reducible] def kAt (x : Str) (K : PV → St → Prop) (a : PV) (σ : St) : Prop := ∃ q, attrv tbl σ a x = some q ∧ K q σ
@[reducible] def kSu2 (K : PV → St → Prop) (a b : PV) (σ : St) : Prop := ∃ u, subv σ a b = some u ∧ K u σ
@[reducible] def kSu (n : Nat) (sc : Scope) (i : Expr) (ls : Ls) (K : PV → St → Prop) (a : PV) (σ : St) : Prop := E n sc i ls σ (kSu2 K a)
@[reducible] def kSl (n : Nat) (sc : Scope) (lo hi : Option Expr) (ls : Ls) (K : PV → St → Prop) (a : PV) (σ : St) : Prop := ∃ l h u, pvO (pv n sc ls σ) lo = some l ∧ pvO (pv n sc ls σ) hi = some h ∧ slcS σ a l h = some u ∧ K u σ
@[reducible] def kTu (K : PV → St → Prop) (l : List PV) (σ : St) : Prop := K (.tup l) σ
@[reducible] def kLi (K : PV → St → Prop) (l : List PV) (σ : St) : Prop := K (.lst l) σ
@[reducible] def kLn (K : PV → St → Prop) (l : List PV) (σ : St) : Prop := K (.obj (.l σ.n)) (σ.new (.l σ.n) (.lst l))
@[reducible] def kCa (n : Nat) (F : Fn) (K : PV → St → Prop) (l : List PV) (σ : St) : Prop := W (callF tbl n F l σ) (kU K)
@[reducible] def kIn (n : Nat) (C : Str) (K : PV → St → Prop) (l : List PV) (σ : St) : Prop := W (inst tbl n C l σ) (kU K)
@[reducible] def kMe (n : Nat) (sc : Scope) (x : Str) (args : List Expr) (ls : Ls) (K : PV → St → Prop) (p : PV) (σ : St) : Prop := ∃ F, MkR tbl σ p x (.own F) ∧ ES n sc args ls σ fun l σ => W (callF tbl n F (p :: l) σ) (kU K)
@[reducible] def kMb (n : Nat) (sc : Scope) (x : Str) (args : List Expr) (ls : Ls) (K : PV → St → Prop) (p : PV) (σ : St) : Prop := ∃ m, MkR tbl σ p x m ∧ ES n sc args ls σ fun l σ => W (McR σ m p l) (kU K)
@[reducible] def kSo (K : PV → St → Prop) (l : List PV) (σ : St) : Prop := ∃ p q, l = [p] ∧ sortv σ p = some q ∧ K q σ
@[reducible] def kBi (b : Bi) (K : PV → St → Prop) (l : List PV) (σ : St) : Prop := ∃ q, bcall σ b l = some q ∧ K q σ
@[reducible] def kEs2 (K : List PV → St → Prop) (p : PV) (l : List PV) (σ : St) : Prop := l.length ≤ 1000 ∧ K (p :: l) σ
@[reducible] def kEs (n : Nat) (sc : Scope) (es : List Expr) (ls : Ls) (K : List PV → St → Prop) (p : PV) (σ : St) : Prop := ES n sc es ls σ (kEs2 K p)
@[reducible] def kSq (n : Nat) (sc : Scope) (ts : List Stmt) (K : Fl → Ls → St → Prop) (x : Fl) (ls : Ls) (σ : St) : Prop := match x with
  | .next => SQ n sc ts ls σ K
  | .ret p => K (.ret p) ls σ
  | .brk => K .brk ls σ
  | .cont => K .cont ls σ
@[reducible] def kC (Q : PV × St → Prop) (x : Fl) (ls : Ls) (σ : St) : Prop := match x with
  | .next => Q (.none, σ)
  | .ret p => Q (p, σ)
  | .brk => False
  | .cont => False
@[reducible] def kAN (n : Nat) (sc : Scope) (x : Str) (ts : List Stmt) (ls : Ls) (K : Fl → Ls → St → Prop) (p : PV) (σ : St) : Prop := SQ n sc ts (setL x p ls) σ K
@[reducible] def kAA2 (n : Nat) (sc : Scope) (x : Str) (ts : List Stmt) (ls : Ls) (K : Fl → Ls → St → Prop) (p q : PV) (σ : St) : Prop := ∃ s, setAttrv tbl σ q x p = some s ∧ SQ (n + 2) sc ts ls s K
@[reducible] def kAA (n : Nat) (sc : Scope) (o : Expr) (x : Str) (ts : List Stmt) (ls : Ls) (K : Fl → Ls → St → Prop) (p : PV) (σ : St) : Prop := E n sc o ls σ (kAA2 n sc x ts ls K p)
@[reducible] def kAS3 (n : Nat) (sc : Scope) (ts : List Stmt) (ls : Ls) (K : Fl → Ls → St → Prop) (p q u : PV) (σ : St) : Prop := ∃ s, setItemv σ q u p = some s ∧ SQ (n + 2) sc ts ls s K
@[reducible] def kAS2 (n : Nat) (sc : Scope) (i : Expr) (ts : List Stmt) (ls : Ls) (K : Fl → Ls → St → Prop) (p q : PV) (σ : St) : Prop := E n sc i ls σ (kAS3 n sc ts ls K p q)
@[reducible] def kAS (n : Nat) (sc : Scope) (o i : Expr) (ts : List Stmt) (ls : Ls) (K : Fl → Ls → St → Prop) (p : PV) (σ : St) : Prop := E n sc o ls σ (kAS2 n sc i ts ls K p)
@[reducible] def kGo (n : Nat) (sc : Scope) (ts : List Stmt) (K : Fl → Ls → St → Prop) (ls : Ls) (σ : St) : Prop := SQ n sc ts ls σ K
@[reducible] def kX (n : Nat) (sc : Scope) (ts : List Stmt) (ls : Ls) (K : Fl → Ls → St → Prop) (_ : PV) (σ : St) : Prop := SQ n sc ts ls σ K
@[reducible] def kRe (ls : Ls) (K : Fl → Ls → St → Prop) (p : PV) (σ : St) : Prop := K (.ret p) ls σ
@[reducible] def kRF (ls : Ls) (K : Fl → Ls → St → Prop) (p : PV) (σ : St) : Prop := ∃ l vs, p = .obj l ∧ σ.H l = some (.lst vs) ∧ K (.ret (.lst vs)) ls (σ.drop l)
@[reducible] def kTv (K : Bool → St → Prop) (p : PV) (σ : St) : Prop := ∃ b, p = .bool b ∧ K b σ
@[reducible] def kIt (K : List PV → Option Loc → St → Prop) (p : PV) (σ : St) : Prop := ∃ l o, items σ p = some (l, o) ∧ K l o σ
@[reducible] def kCo (K : PV → St → Prop) (l : List PV) (_ : Ls) (σ : St) : Prop := l.length ≤ 1000000 ∧ K (.lst l) σ
@[reducible] def kT1 (l1 : Ls) (Z : List PV → Ls → St → Prop) (q : PV) (σ : St) : Prop := Z [q] l1 σ
@[reducible] def kCF2 (Z : List PV → Ls → St → Prop) (l m : List PV) (ls : Ls) (σ : St) : Prop := Z (l ++ m) ls σ
@[reducible] def kCF (n : Nat) (sc : Scope) (g : Comprehension) (k : Expr ⊕ (Comprehension × Expr)) (o : Option Loc) (σ₀ : St) (xs : List PV) (Z : List PV → Ls → St → Prop) (l : List PV) (ls : Ls) (σ : St) : Prop := ∃ l1, sameV o σ₀ σ = true ∧ Sub l1 ls ∧ CF n sc g k o σ₀ xs l1 σ (kCF2 Z l)
@[reducible] def kIC (n : Nat) (sc : Scope) (g : Comprehension) (k : Expr ⊕ (Comprehension × Expr)) (ls : Ls) (Z : List PV → Ls → St → Prop) (l : List PV) (o : Option Loc) (σ : St) : Prop := CF n sc g k o σ l ls σ Z
@[reducible] def kIL (n : Nat) (sc : Scope) (t : Expr) (b : List Stmt) (ls : Ls) (K : Fl → Ls → St → Prop) (l : List PV) (o : Option Loc) (σ : St) : Prop := LF n sc t b o σ l ls σ K
@[reducible] def kRg (I : List PV → Option Loc → St → Prop) (ps : List PV) (σ : St) : Prop := ∃ l, rangeA ps = some l ∧ I l none σ
noncomputable def asgN (sc : Scope) (x : Str) : Bool := isVar sc x && sc.names.lookup x != some .free
theorem asgN_e {sc : Scope} {x : Str} (h : asgN sc x = true) : isVar sc x = true ∧ sc.names.lookup x ≠ some .free := by
  have h := (Bool.and_eq_true _ _).mp h; exact ⟨h.1, by simpa using h.2⟩
noncomputable def calN (sc : Scope) (x : Str) : Bool := isGlob sc x && plainN x
theorem calN_e {sc : Scope} {x : Str} (h : calN sc x = true) : isGlob sc x = true ∧ plainN x = true := (Bool.and_eq_true _ _).mp h
section
variable {n k : Nat} {sc scope : Scope} {ls l1 : Ls} {σ : St} {pos p2 p3 : Pos} {e o l r i t x y elt : Expr} {es args ts : List Expr} {f a : Str} {p q u : PV} {ps : List PV} {K : PV → St → Prop} {L : List PV → St → Prop} {R : Bool → St → Prop} {S : Fl → Ls → St → Prop} {ss b ob : List Stmt} {c : Bool} {Q : PV × St → Prop} {F : Fn}
theorem rP (h : pv n sc ls σ e = some p) (k : K p σ) : E n sc e ls σ K := ⟨p, σ, pv_ok n h, k⟩
theorem rBin {op : Operator} (h : E n sc l ls σ (kBin n sc op r ls K)) : E (n + 1) sc (.BinOp l op r pos) ls σ K := by obtain ⟨_, _, h1, _, _, h2, _, h3, k⟩ := h; exact ⟨_, _, EvR.bin h1 h2 h3, k⟩
theorem rCmp {op : CmpOp} (h : E n sc l ls σ (kCm n sc op r ls K)) : E (n + 1) sc (.Compare l [op] [r] pos) ls σ K := by obtain ⟨_, _, h1, _, _, h2, _, h3, k⟩ := h; exact ⟨_, _, EvR.cmp h1 h2 h3, k⟩
theorem rAttr (hb : plainBase o = true) (h : E n sc o ls σ (kAt a K)) : E (n + 1) sc (.Attribute o a pos) ls σ K := by obtain ⟨_, _, h1, _, h2, k⟩ := h; exact ⟨_, _, EvR.attr hb h1 h2, k⟩
theorem rSub (h : E n sc o ls σ (kSu n sc i ls K)) : E (n + 1) sc (.Subscript o i pos) ls σ K := by obtain ⟨_, _, h1, _, _, h2, _, h3, k⟩ := h; exact ⟨_, _, EvR.sub h1 h2 h3, k⟩
theorem rSlc {lo hi : Option Expr} (h : E n sc o ls σ (kSl n sc lo hi ls K)) : E (n + 1) sc (.Subscript o (.Slice lo hi none p2) pos) ls σ K := by obtain ⟨_, _, h1, _, _, _, h2, h3, h4, k⟩ := h; exact ⟨_, _, EvR.slc h1 (pvO_ok (pv_ok n) h2) (pvO_ok (pv_ok n) h3) h4, k⟩
theorem rTup (h : ES n sc es ls σ (kTu K)) : E (n + 1) sc (.Tuple es k pos) ls σ K := by obtain ⟨_, _, h1, k⟩ := h; exact ⟨_, _, EvR.tuple h1, k⟩
theorem rLst (h : ES n sc es ls σ (kLi K)) : E (n + 1) sc (.List es pos) ls σ K := by obtain ⟨_, _, h1, k⟩ := h; exact ⟨_, _, EvR.list h1, k⟩
theorem rLn (h : ES n sc es ls σ (kLn K)) : E (n + 1) sc (.List es pos) ls σ K := by obtain ⟨_, _, h1, k⟩ := h; exact ⟨_, _, EvR.listN h1, k⟩
theorem rDi (k : K (.obj (.d σ.n)) (σ.new (.d σ.n) (.di []))) : E (n + 1) sc (.Dict [] [] pos) ls σ K := ⟨_, _, EvR.dict, k⟩
theorem rDn (k : K (.obj (.d σ.n)) (σ.new (.d σ.n) (.dn []))) : E (n + 1) sc (.Dict [] [] pos) ls σ K := ⟨_, _, EvR.dictN, k⟩
theorem rIf (h : pt n sc ls σ t = some c) (hT : c = true → E n sc x ls σ K) (hF : c = false → E n sc y ls σ K) : E (n + 1) sc (.IfExp t x y pos) ls σ K := by
  cases c with
  | true => obtain ⟨_, _, h1, k⟩ := hT rfl; exact ⟨_, _, EvR.ifT (pt_ok n h) h1, k⟩
  | false => obtain ⟨_, _, h1, k⟩ := hF rfl; exact ⟨_, _, EvR.ifF (pt_ok n h) h1, k⟩
theorem rIT (h : pt n sc ls σ t = some true) (k : E n sc x ls σ K) : E (n + 1) sc (.IfExp t x y pos) ls σ K := rIf h (fun _ => k) fun e => nomatch e
theorem rIF (h : pt n sc ls σ t = some false) (k : E n sc y ls σ K) : E (n + 1) sc (.IfExp t x y pos) ls σ K := rIf h (fun e => nomatch e) fun _ => k
theorem rIf' (h : T n sc t ls σ fun c σ => (c = true → E n sc x ls σ K) ∧ (c = false → E n sc y ls σ K)) : E (n + 1) sc (.IfExp t x y pos) ls σ K := by
  obtain ⟨c, _, h, hT, hF⟩ := h
  cases c with
  | true => obtain ⟨_, _, h1, k⟩ := hT rfl; exact ⟨_, _, EvR.ifT h h1, k⟩
  | false => obtain ⟨_, _, h1, k⟩ := hF rfl; exact ⟨_, _, EvR.ifF h h1, k⟩
theorem rCall (hc : calN sc f = true) (hf : tbl.fn f = some F) (h : ES n sc args ls σ (kCa n F K)) : E (n + 1) sc (.Call (.Name f p2) args [] pos) ls σ K := by obtain ⟨_, _, h1, _, h2, k⟩ := h; exact ⟨_, _, EvR.call (calN_e hc).1 (calN_e hc).2 hf h1 h2, k⟩
theorem rInst {fz : Bool} (hc : calN sc f = true) (hf : tbl.cls f = some fz) (h : ES n sc args ls σ (kIn n f K)) : E (n + 1) sc (.Call (.Name f p2) args [] pos) ls σ K := by obtain ⟨_, _, h1, _, h2, k⟩ := h; exact ⟨_, _, EvR.inst (calN_e hc).1 (calN_e hc).2 hf h1 h2, k⟩
theorem rMe (hb : plainBase o = true) (hl : args.length < 20) (hp : p2.endLine = pos.line) (h : E n sc o ls σ (kMe n sc a args ls K)) : E (n + 1) sc (.Call (.Attribute o a p2) args [] pos) ls σ K := by obtain ⟨_, _, h1, _, h2, _, _, h3, _, h4, k⟩ := h; exact ⟨_, _, EvR.mOwn hb hl hp h1 h2 h3 h4, k⟩
theorem rMb (hb : plainBase o = true) (hl : args.length < 20) (hp : p2.endLine = pos.line) (h : E n sc o ls σ (kMb n sc a args ls K)) : E (n + 1) sc (.Call (.Attribute o a p2) args [] pos) ls σ K := by obtain ⟨_, _, h1, _, h2, _, _, h3, _, h4, k⟩ := h; exact ⟨_, _, EvR.mBi hb hl hp h1 h2 h3 h4, k⟩
theorem rSo (hc : isGlob sc (Str.ofString "sorted") = true) (h : ES n sc args ls σ (kSo K)) : E (n + 1) sc (.Call (.Name (Str.ofString "sorted") p2) args [] pos) ls σ K := by
  obtain ⟨_, _, h1, _, _, rfl, h2, k⟩ := h; exact ⟨_, _, EvR.sorted hc h1 h2, k⟩
theorem rBi {b : Bi} (hc : calN sc f = true) (hf : biOf f = some b) (h : ES n sc args ls σ (kBi b K)) : E (n + 1) sc (.Call (.Name f p2) args [] pos) ls σ K := by obtain ⟨_, _, h1, _, h2, k⟩ := h; exact ⟨_, _, EvR.bi hf (calN_e hc).1 (calN_e hc).2 h1 h2, k⟩
theorem rBo1 {op : BoolOp} (h : E n sc x ls σ fun v σ => ∃ c, v = .bool c ∧ K (.bool c) σ) : E (n + 1) sc (.BoolOp op [x] pos) ls σ K := by
  obtain ⟨_, _, h1, _, rfl, k⟩ := h; exact ⟨_, _, EvR.one h1, k⟩
theorem rBo {op : BoolOp} (h : E n sc x ls σ fun v σ => ∃ c, v = .bool c ∧ (((op == .And) == c) = true → E n sc (.BoolOp op (y :: es) pos) ls σ K) ∧ (((op == .And) == c) = false → K (.bool c) σ)) : E (n + 1) sc (.BoolOp op (x :: y :: es) pos) ls σ K := by
  obtain ⟨_, _, h1, c, rfl, k1, k2⟩ := h
  cases hc : (op == .And) == c with
  | true => obtain ⟨_, _, h2, k⟩ := k1 hc; exact ⟨_, _, EvR.go h1 hc h2, k⟩
  | false => exact ⟨_, _, EvR.stop h1 hc, k2 hc⟩
theorem rCo {gs : List Comprehension} (h : CO n sc elt gs scope ls σ K) : E (n + 1) sc (.ListComp elt gs scope pos) ls σ K := by obtain ⟨_, _, h1, k⟩ := h; exact ⟨_, _, EvR.comp h1, k⟩
-- tests
theorem tP (h : pt n sc ls σ e = some c) (k : R c σ) : T n sc e ls σ R := ⟨c, σ, pt_ok n h, k⟩
theorem tN (h : T n sc x ls σ fun c σ => R (!c) σ) : T (n + 1) sc (.UnaryOp .Not x pos) ls σ R := by obtain ⟨_, _, h1, k⟩ := h; exact ⟨_, _, TrR.not h1, k⟩
theorem tB0 {op : BoolOp} (k : R (op == .And) σ) : T (n + 1) sc (.BoolOp op [] pos) ls σ R := ⟨_, _, TrR.nil, k⟩
theorem tB {op : BoolOp} (h : T n sc x ls σ fun c σ => (((op == .And) == c) = true → T n sc (.BoolOp op es pos) ls σ R) ∧ (((op == .And) == c) = false → R c σ)) : T (n + 1) sc (.BoolOp op (x :: es) pos) ls σ R := by
  obtain ⟨c, _, h1, k1, k2⟩ := h
  cases hc : (op == .And) == c with
  | true => obtain ⟨_, _, h2, k⟩ := k1 hc; exact ⟨_, _, TrR.go h1 hc h2, k⟩
  | false => exact ⟨_, _, TrR.stop h1 hc, k2 hc⟩
theorem tOne {op : BoolOp} (h : T (n + 1) sc x ls σ R) : T (n + 2) sc (.BoolOp op [x] pos) ls σ R := by
  obtain ⟨c, _, h1, k⟩ := h
  cases op <;> cases c
  · exact ⟨_, _, TrR.stop h1 rfl, k⟩
  · exact ⟨_, _, TrR.go h1 rfl TrR.nil, k⟩
  · exact ⟨_, _, TrR.go h1 rfl TrR.nil, k⟩
  · exact ⟨_, _, TrR.stop h1 rfl, k⟩
theorem tOr (h : T n sc x ls σ fun c σ => (c = true → R true σ) ∧ (c = false → T n sc (.BoolOp .Or es pos) ls σ R)) : T (n + 1) sc (.BoolOp .Or (x :: es) pos) ls σ R := by
  obtain ⟨c, _, h1, k⟩ := h
  cases c
  · obtain ⟨_, _, h2, k⟩ := k.2 rfl; exact ⟨_, _, TrR.go h1 rfl h2, k⟩
  · exact ⟨_, _, TrR.stop h1 rfl, k.1 rfl⟩
theorem tAnd (h : T n sc x ls σ fun c σ => (c = true → T n sc (.BoolOp .And es pos) ls σ R) ∧ (c = false → R false σ)) : T (n + 1) sc (.BoolOp .And (x :: es) pos) ls σ R := by
  obtain ⟨c, _, h1, k⟩ := h
  cases c
  · exact ⟨_, _, TrR.stop h1 rfl, k.2 rfl⟩
  · obtain ⟨_, _, h2, k⟩ := k.1 rfl; exact ⟨_, _, TrR.go h1 rfl h2, k⟩
theorem tOrF (h : pt n sc ls σ x = some c) (hc : c = false) (k : T n sc (.BoolOp .Or es pos) ls σ R) : T (n + 1) sc (.BoolOp .Or (x :: es) pos) ls σ R := tOr (tP h ⟨fun e => (by rw [hc] at e; cases e), fun _ => k⟩)
theorem tAndT (h : pt n sc ls σ x = some c) (hc : c = true) (k : T n sc (.BoolOp .And es pos) ls σ R) : T (n + 1) sc (.BoolOp .And (x :: es) pos) ls σ R := tAnd (tP h ⟨fun _ => k, fun e => by rw [hc] at e; cases e⟩)
theorem tC {op : CmpOp} (h : E n sc l ls σ (kTc n sc op r ls R)) : T (n + 1) sc (.Compare l [op] [r] pos) ls σ R := by obtain ⟨_, _, h1, _, _, h2, _, h3, k⟩ := h; exact ⟨_, _, TrR.cmp h1 h2 h3, k⟩
theorem tC2 {o1 o2 : CmpOp} {r1 r2 : Expr} (h : E n sc l ls σ fun a σ => E n sc r1 ls σ fun b σ => cmpc σ o1 a b = some true ∧ E n sc r2 ls σ (kTc2 o2 R b)) : T (n + 1) sc (.Compare l [o1, o2] [r1, r2] pos) ls σ R := by obtain ⟨_, _, h1, _, _, h2, h3, _, _, h4, _, h5, k⟩ := h; exact ⟨_, _, TrR.cmp2 h1 h2 h3 h4 h5, k⟩
theorem tV (hp : plainTest e = true) (h : E n sc e ls σ (kTv R)) : T (n + 1) sc e ls σ R := by
  obtain ⟨_, _, h1, _, rfl, k⟩ := h; exact ⟨_, _, TrR.val hp h1, k⟩
-- several
theorem s0 (k : L [] σ) : ES n sc [] ls σ L := ⟨_, _, .nil, k⟩
theorem sC (h : E n sc e ls σ (kEs n sc es ls L)) : ES n sc (e :: es) ls σ L := by obtain ⟨_, _, h1, _, _, h2, h3, k⟩ := h; exact ⟨_, _, .cons h1 h2 h3, k⟩
theorem sP (h : pvs (pv n sc ls σ) es = some ps) (k : L ps σ) : ES n sc es ls σ L := ⟨_, _, pvs_ok (pv_ok n) h, k⟩
-- targets
variable {G : Ls → St → Prop}
theorem g0 (k : G ls σ) : AG n sc [] [] ls σ G := ⟨_, _, .nil, k⟩
theorem gN (hv : asgN sc f = true) (h : AG (n + 1) sc ts ps (setL f p ls) σ G) : AG (n + 1) sc (.Name f p2 :: ts) (p :: ps) ls σ G := by obtain ⟨_, _, h1, k⟩ := h; exact ⟨_, _, .cons rfl (AsgR.name (asgN_e hv).1 (asgN_e hv).2) h1, k⟩
theorem gS (h : E n sc o ls σ fun q σ => E n sc i ls σ fun u σ => ∃ s, setItemv σ q u p = some s ∧ AG (n + 1) sc ts ps ls s G) : AG (n + 1) sc (.Subscript o i p2 :: ts) (p :: ps) ls σ G := by obtain ⟨_, _, h1, _, _, h2, _, h3, _, _, h4, k⟩ := h; exact ⟨_, _, .cons rfl (AsgR.sub h1 h2 h3) h4, k⟩
-- statements
theorem q0 (k : S .next ls σ) : SQ n sc [] ls σ S := ⟨_, _, _, .nil, k⟩
theorem qW (hs : Sub l1 ls) (k : SQ n sc ss l1 σ S) : SQ n sc ss ls σ S := by obtain ⟨_, _, _, h, k⟩ := k; exact ⟨_, _, _, .weak hs h, k⟩
theorem SQ.next {t : Stmt} {l1 : Ls} {s1 : St} (h : exc tbl n sc t ls σ (.next, l1, s1)) (k : SQ n sc ss l1 s1 S) : SQ n sc (t :: ss) ls σ S := by obtain ⟨_, _, _, h2, k⟩ := k; exact ⟨_, _, _, .next h h2, k⟩
theorem qAP (hv : asgN sc f = true) (hc : noComp e = true) (h : pv (n + 1) sc ls σ e = some p) (k : SQ (n + 2) sc ss (setL f p ls) σ S) : SQ (n + 2) sc (.Assign [.Name f p2] e pos :: ss) ls σ S :=
  k.next (ExcR.asg (by unfold asgPlain; rw [hc]; rfl) (pv_ok _ h) (AsgR.name (asgN_e hv).1 (asgN_e hv).2))
theorem qA (hv : asgN sc f = true) (hc : noComp e = true) (h : E (n + 1) sc e ls σ (kAN (n + 2) sc f ss ls S)) : SQ (n + 2) sc (.Assign [.Name f p2] e pos :: ss) ls σ S := by obtain ⟨_, _, h1, k⟩ := h; exact SQ.next (ExcR.asg (by unfold asgPlain; rw [hc]; rfl) h1 (AsgR.name (asgN_e hv).1 (asgN_e hv).2)) k
theorem qAC {gs : List Comprehension} (hv : asgN sc f = true) (h : CO (n + 1) sc elt gs scope ls σ (kAN (n + 2) sc f ss ls S)) : SQ (n + 2) sc (.Assign [.Name f p2] (.ListComp elt gs scope p3) pos :: ss) ls σ S := by obtain ⟨_, _, h1, k⟩ := h; exact SQ.next (ExcR.asgC h1 (AsgR.name (asgN_e hv).1 (asgN_e hv).2)) k
theorem qAA (hc : noComp e = true) (h : E (n + 1) sc e ls σ (kAA n sc o a ss ls S)) : SQ (n + 2) sc (.Assign [.Attribute o a p2] e pos :: ss) ls σ S := by obtain ⟨_, _, h1, _, _, h2, _, h3, k⟩ := h; exact SQ.next (ExcR.asg (by unfold asgPlain; rw [hc]; rfl) h1 (AsgR.attr h2 h3)) k
theorem asgS {a b : Bool} (h : (a || b) = true) : ((a || (b && true)) && true) = true := by cases a <;> cases b <;> first | rfl | exact h
theorem qAS (hc : (noComp e || kE e == 1) = true) (h : E (n + 1) sc e ls σ (kAS n sc o i ss ls S)) : SQ (n + 2) sc (.Assign [.Subscript o i p2] e pos :: ss) ls σ S := by obtain ⟨_, _, h1, _, _, h2, _, _, h3, _, h4, k⟩ := h; exact SQ.next (ExcR.asg (asgS hc) h1 (AsgR.sub h2 h3 h4)) k
theorem qAT (hc : es.all (constantsAlone 8) = false) (h : ES n sc es ls σ fun ps σ => AG (n + 1) sc ts ps ls σ (kGo (n + 2) sc ss S)) {k k' : Nat} : SQ (n + 2) sc (.Assign [.Tuple ts k p2] (.Tuple es k' p3) pos :: ss) ls σ S := by obtain ⟨_, _, h1, _, _, h2, k⟩ := h; exact SQ.next (ExcR.asgT hc (EvR.tuple h1) h2) k
theorem qAU (hc : noComp e = true) (ht : kE e != 4) (h : E (n + 1) sc e ls σ fun p σ => ∃ ps, (p = .tup ps ∨ p = .lst ps) ∧ AG n sc ts ps ls σ (kGo (n + 2) sc ss S)) : SQ (n + 2) sc (.Assign [.Tuple ts k p2] e pos :: ss) ls σ S := by
  obtain ⟨_, _, h1, ps, hp, _, _, h2, k⟩ := h
  refine SQ.next (ExcR.asg (by unfold asgPlain; rw [hc, ht]; rfl) h1 ?_) k
  rcases hp with rfl | rfl
  · exact AsgR.tup rfl h2
  · exact AsgR.lst rfl h2
theorem qX (hc : noComp e = true) (h : E n sc e ls σ (kX (n + 1) sc ss ls S)) : SQ (n + 1) sc (.Expr e pos :: ss) ls σ S := by obtain ⟨_, _, h1, k⟩ := h; exact SQ.next (ExcR.expr hc h1) k
theorem qPa (k : SQ (n + 1) sc ss ls σ S) : SQ (n + 1) sc (.Pass pos :: ss) ls σ S := SQ.next ExcR.pass k
theorem qBr (k : S .brk ls σ) : SQ (n + 1) sc (.Break pos :: ss) ls σ S := ⟨_, _, _, .stop rfl ExcR.brk, k⟩
theorem qCn (k : S .cont ls σ) : SQ (n + 1) sc (.Continue pos :: ss) ls σ S := ⟨_, _, _, .stop rfl ExcR.cont, k⟩
theorem qRP (h : pv n sc ls σ e = some p) (k : S (.ret p) ls σ) : SQ (n + 1) sc (.Return (some e) pos :: ss) ls σ S := ⟨_, _, _, .stop rfl (ExcR.ret (pv_ok n h)), k⟩
theorem qR (h : E n sc e ls σ (kRe ls S)) : SQ (n + 1) sc (.Return (some e) pos :: ss) ls σ S := by obtain ⟨_, _, h1, k⟩ := h; exact ⟨_, _, _, .stop rfl (ExcR.ret h1), k⟩
theorem qRF (h : E n sc e ls σ (kRF ls S)) : SQ (n + 1) sc (.Return (some e) pos :: ss) ls σ S := by
  obtain ⟨_, _, h1, _, _, rfl, h2, k⟩ := h; exact ⟨_, _, _, .stop rfl (ExcR.retF h1 h2), k⟩
theorem SQ.then {t : Stmt} (h : ∃ x l s, exc tbl n sc t ls σ (x, l, s) ∧ kSq n sc ss S x l s) : SQ n sc (t :: ss) ls σ S := by
  obtain ⟨x, l, s, h1, k⟩ := h
  cases x with
  | next => exact SQ.next h1 k
  | brk => exact ⟨_, _, _, .stop rfl h1, k⟩
  | cont => exact ⟨_, _, _, .stop rfl h1, k⟩
  | ret p => exact ⟨_, _, _, .stop rfl h1, k⟩
theorem qI (h : pt n sc ls σ t = some c) (hT : c = true → SQ n sc b ls σ (kSq (n + 1) sc ss S)) (hF : c = false → SQ n sc ob ls σ (kSq (n + 1) sc ss S)) : SQ (n + 1) sc (.If t b ob pos :: ss) ls σ S := by
  cases c with
  | true => obtain ⟨_, _, _, h1, k⟩ := hT rfl; exact SQ.then ⟨_, _, _, ExcR.ifT (pt_ok n h) h1, k⟩
  | false => obtain ⟨_, _, _, h1, k⟩ := hF rfl; exact SQ.then ⟨_, _, _, ExcR.ifF (pt_ok n h) h1, k⟩
theorem qT (h : pt n sc ls σ t = some c) (hc : c = true) (k : SQ n sc b ls σ (kSq (n + 1) sc ss S)) : SQ (n + 1) sc (.If t b ob pos :: ss) ls σ S := qI h (fun _ => k) fun e => by rw [hc] at e; cases e
theorem qF (h : pt n sc ls σ t = some c) (hc : c = false) (k : SQ n sc ob ls σ (kSq (n + 1) sc ss S)) : SQ (n + 1) sc (.If t b ob pos :: ss) ls σ S := qI h (fun e => by rw [hc] at e; cases e) fun _ => k
theorem qT' (h : pt n sc ls σ t = some true) (k : SQ n sc b ls σ (kSq (n + 1) sc ss S)) : SQ (n + 1) sc (.If t b ob pos :: ss) ls σ S := qT h rfl k
theorem qF' (h : pt n sc ls σ t = some false) (k : SQ (n + 1) sc ss ls σ S) : SQ (n + 1) sc (.If t b [] pos :: ss) ls σ S := qF h rfl (q0 k)
/-- if .., and no else -/
theorem qF0 (h : pt n sc ls σ t = some c) (hc : c = false) (k : SQ (n + 1) sc ss ls σ S) : SQ (n + 1) sc (.If t b [] pos :: ss) ls σ S := qF h hc (q0 k)
theorem qI' (h : T n sc t ls σ fun c σ => (c = true → SQ n sc b ls σ (kSq (n + 1) sc ss S)) ∧ (c = false → SQ n sc ob ls σ (kSq (n + 1) sc ss S))) : SQ (n + 1) sc (.If t b ob pos :: ss) ls σ S := by
  obtain ⟨c, _, h, hT, hF⟩ := h
  cases c with
  | true => obtain ⟨_, _, _, h1, k⟩ := hT rfl; exact SQ.then ⟨_, _, _, ExcR.ifT h h1, k⟩
  | false => obtain ⟨_, _, _, h1, k⟩ := hF rfl; exact SQ.then ⟨_, _, _, ExcR.ifF h h1, k⟩
theorem qFE (h : T n sc t ls σ fun c σ => c = false ∧ SQ (n + 1) sc ss ls σ S) : SQ (n + 1) sc (.If t b [] pos :: ss) ls σ S := by
  obtain ⟨_, _, h, rfl, k⟩ := h; refine qI' ⟨_, _, h, ?_⟩; exact ⟨fun e => (nomatch e), fun _ => q0 k⟩
theorem qTE (h : T n sc t ls σ fun c σ => c = true ∧ SQ n sc b ls σ (kSq (n + 1) sc ss S)) : SQ (n + 1) sc (.If t b ob pos :: ss) ls σ S := by
  obtain ⟨_, _, h, rfl, k⟩ := h; refine qI' ⟨_, _, h, ?_⟩; exact ⟨fun _ => k, fun e => nomatch e⟩
theorem qFo (hn : nameT t = true) (h : IT n sc e ls σ (kIL n sc t b ls (kSq (n + 1) sc ss S))) : SQ (n + 1) sc (.For t e b [] pos :: ss) ls σ S := by obtain ⟨_, _, _, h1, _, _, _, h2, k⟩ := h; exact SQ.then ⟨_, _, _, ExcR.for hn h1 h2, k⟩
theorem qWh (h : WF n sc t b k ls σ (kSq (n + 1) sc ss S)) : SQ (n + 1) sc (.While t b [] pos :: ss) ls σ S := by obtain ⟨_, _, _, h2, k⟩ := h; exact SQ.then ⟨_, _, _, ExcR.whl h2, k⟩
theorem qTr {h0 : ExceptHandler} {hs : List ExceptHandler} (h : SQ n sc b ls σ (kSq (n + 1) sc ss S)) : SQ (n + 1) sc (.Try b (h0 :: hs) [] [] pos :: ss) ls σ S := by obtain ⟨_, _, _, h2, k⟩ := h; exact SQ.then ⟨_, _, _, ExcR.try h2, k⟩
-- calls
theorem rC (hb : bindP F ps = some l1) (h : SQ n F.scope F.body l1 σ (kC Q)) : W (callF tbl (n + 1) F ps σ) Q := by
  obtain ⟨x, l, s, h1, k⟩ := h
  cases x with
  | next => exact ⟨_, CallR.mk hb h1 rfl, k⟩
  | ret p => exact ⟨_, CallR.mk hb h1 rfl, k⟩
  | brk => exact k.elim
  | cont => exact k.elim
theorem rIo {C : Str} (hm : tbl.meth C (Str.ofString "__init__") = some F) (h : W (callF tbl n F (.obj (.i σ.n) :: ps) (σ.new (.i σ.n) (.inst C [] []))) fun r => r.1 = .none ∧ Q (.obj (.i σ.n), r.2)) : W (inst tbl (n + 1) C ps σ) Q := by
  obtain ⟨⟨p, s⟩, h1, e, k⟩ := h; cases e; exact ⟨_, InstR.ob hm h1, k⟩
theorem rIz {C : Str} (hm : tbl.meth C (Str.ofString "__init__") = some F) (h : W (callF tbl n F (.obj (.i σ.n) :: ps) (σ.new (.i σ.n) (.inst C [] []))) fun r => r.1 = .none ∧ ∃ C' ks vs, r.2.H (.i σ.n) = some (.inst C' ks vs) ∧ Q (.inst C' ks vs, r.2.drop (.i σ.n))) : W (inst tbl (n + 1) C ps σ) Q := by
  obtain ⟨⟨p, s⟩, h1, e, _, _, _, h2, k⟩ := h; cases e; exact ⟨_, InstR.fz hm h1 h2, k⟩
-- what is gone over
variable {I : List PV → Option Loc → St → Prop}
theorem iE' (h : E n sc e ls σ (kIt I)) : IT (n + 1) sc e ls σ I := by obtain ⟨_, _, h1, _, _, h2, k⟩ := h; exact ⟨_, _, _, ItrR.ev h1 h2, k⟩
theorem iR (hc : isGlob sc (Str.ofString "range") = true) (h : ES n sc args ls σ (kRg I)) : IT (n + 1) sc (.Call (.Name (Str.ofString "range") p2) args [] pos) ls σ I := by obtain ⟨_, _, h1, _, h2, k⟩ := h; exact ⟨_, _, _, ItrR.range hc h1 h2, k⟩
theorem c1 {g : Comprehension} (hc : compOk scope sc = true) (ha : g.is_async = 0) (h : IT n sc g.iter ls σ (kIC n (compScope scope sc) g (.inl elt) (compLs scope ls) (kCo K))) : CO n sc elt [g] scope ls σ K := by obtain ⟨_, _, _, h1, _, _, _, h2, h3, k⟩ := h; exact ⟨_, _, .one hc ha h1 h2 h3, k⟩
theorem c2 {g g2 : Comprehension} (hc : compOk scope sc = true) (ha : g.is_async = 0) (ha2 : g2.is_async = 0) (h : IT n sc g.iter ls σ (kIC n (compScope scope sc) g (.inr (g2, elt)) (compLs scope ls) (kCo K))) : CO n sc elt [g, g2] scope ls σ K := by obtain ⟨_, _, _, h1, _, _, _, h2, h3, k⟩ := h; exact ⟨_, _, .two hc ha ha2 h1 h2 h3, k⟩
variable {g g2 : Comprehension} {Z : List PV → Ls → St → Prop}
theorem u0 (ha : asgC sc g.target p ls = some l1) (hi : g.ifs = []) (h : E n sc elt l1 σ (kT1 l1 Z)) : TU (n + 1) sc g (.inl elt) p ls σ Z := by obtain ⟨_, _, h1, k⟩ := h; exact ⟨_, _, _, TurnR.yes ha (by rw [hi]; exact .nil) h1, k⟩
theorem u1 (ha : asgC sc g.target p ls = some l1) (hi : g.ifs = [t]) (ht : pt n sc l1 σ t = some c) (hT : c = true → E n sc elt l1 σ (kT1 l1 Z)) (hF : c = false → Z [] l1 σ) : TU (n + 1) sc g (.inl elt) p ls σ Z := by
  cases c with
  | true => obtain ⟨_, _, h1, k⟩ := hT rfl; exact ⟨_, _, _, TurnR.yes ha (by rw [hi]; exact .on (pt_ok n ht) .nil) h1, k⟩
  | false => exact ⟨_, _, _, TurnR.no ha (by rw [hi]; exact .off (pt_ok n ht)), hF rfl⟩
theorem u2 (ha : asgC sc g.target p ls = some l1) (hi : g.ifs = []) (h : IT n sc g2.iter l1 σ (kIC n sc g2 (.inl elt) l1 Z)) : TU (n + 1) sc g (.inr (g2, elt)) p ls σ Z := by obtain ⟨_, _, _, h1, _, _, _, h2, k⟩ := h; exact ⟨_, _, _, TurnR.deep ha (by rw [hi]; exact .nil) h1 h2, k⟩
end
section
variable {n : Nat} {sc : Scope} {gg : Comprehension} {kk : Expr ⊕ (Comprehension × Expr)} {src : Option Loc} {σ₀ σ : St} {ls : Ls} {x : PV} {xs : List PV} {Z : List PV → Ls → St → Prop}
theorem cN (k : Z [] ls σ) : CF n sc gg kk src σ₀ [] ls σ Z := ⟨_, _, _, .nil, k⟩
theorem cC (h : TU n sc gg kk x ls σ (kCF n sc gg kk src σ₀ xs Z)) : CF n sc gg kk src σ₀ (x :: xs) ls σ Z := by obtain ⟨_, _, _, h1, _, hs, hw, _, _, _, h2, k⟩ := h; exact ⟨_, _, _, .cons h1 hs hw h2, k⟩
variable {α : Type} {F : α → PV} {g : α → List PV}
/-- a comprehension over a list, whose turns leave the state -/
theorem W_compM : ∀ {l : List α} {Z : List PV → Ls → St → Prop}, (∀ r ∈ l, TU n sc gg kk (F r) ls σ fun y l1 s => y = g r ∧ Sub ls l1 ∧ s = σ) → Z (l.flatMap g) ls σ → CF n sc gg kk none σ₀ (l.map F) ls σ Z
  | [], Z, _, hq => cN hq
  | r :: l, Z, ht, hq => by
    obtain ⟨_, _, _, h0, h1, h2, h3⟩ := ht r (List.mem_cons_self ..)
    rw [h1, h3] at h0
    exact cC ⟨_, _, _, h0, _, rfl, h2, W_compM (fun r hr => ht r (List.mem_cons_of_mem _ hr)) hq⟩
variable {b : List Stmt} {nm : Str} {pp : Pos} {I : List α → Ls → St → Prop} {K : Fl → Ls → St → Prop}
/-- a loop over a list -/
theorem W_loopM (hv : asgN sc nm = true) (hs : ∀ r l ls σ, I (r :: l) ls σ → SQ (n + 1) sc b (setL nm (F r) ls) σ fun x l2 s2 => ∃ l3, x.goes = true ∧ Sub l3 l2 ∧ I l l3 s2) (hq : ∀ ls σ, I [] ls σ → K .next ls σ) : ∀ (l : List α) (ls : Ls) (σ : St), I l ls σ → LF (n + 1) sc (.Name nm pp) b none σ₀ (l.map F) ls σ K
  | [], ls, σ, h => ⟨_, _, _, .nil, hq ls σ h⟩
  | r :: l, ls, σ, h => by
    obtain ⟨x, l2, s2, h1, l3, hg, hw, hi⟩ := hs r l ls σ h
    obtain ⟨_, _, _, h2, k⟩ := W_loopM hv hs hq l l3 s2 hi
    exact ⟨_, _, _, .on (AsgR.name (asgN_e hv).1 (asgN_e hv).2) h1 hg rfl hw h2, k⟩
theorem Sub.rfl {ls : Ls} : Sub ls ls := fun _ _ h => h
theorem Sub.nil {ls : Ls} : Sub [] ls := fun _ _ h => nomatch h
theorem Sub.cons {s : Str} {v : PV} {l ls : Ls} (h : getV s ls = some v) (k : Sub l ls) : Sub ((s, v) :: l) ls := fun x p e => by
  unfold getV at e
  by_cases c : s = x
  · subst c; rw [if_pos _root_.rfl] at e; cases e; exact h
  · rw [if_neg c] at e; exact k x p e
/-- one turn of a loop, written out -/
theorem lC (hv : asgN sc nm = true) (h : SQ (n + 1) sc b (setL nm x ls) σ fun fl l2 s2 => (∃ l3, fl.goes = true ∧ sameV src σ₀ s2 = true ∧ Sub l3 l2 ∧ LF (n + 1) sc (.Name nm pp) b src σ₀ xs l3 s2 K) ∨ (∃ p, fl = .ret p ∧ K (.ret p) l2 s2)) : LF (n + 1) sc (.Name nm pp) b src σ₀ (x :: xs) ls σ K := by
  obtain ⟨fl, l2, s2, h1, ⟨l3, hg, hs, hw, _, _, _, h2, k⟩ | ⟨p, rfl, k⟩⟩ := h
  · exact ⟨_, _, _, .on (AsgR.name (asgN_e hv).1 (asgN_e hv).2) h1 hg hs hw h2, k⟩
  · exact ⟨_, _, _, .ret (AsgR.name (asgN_e hv).1 (asgN_e hv).2) h1, k⟩
theorem lN {t : Expr} (k : K .next ls σ) : LF n sc t b src σ₀ [] ls σ K := ⟨_, _, _, .nil, k⟩
theorem wOn {k : Nat} {t : Expr} (h : T n sc t ls σ fun c s => c = true ∧ SQ n sc b ls s fun x l2 s2 => (∃ l3, x.goes = true ∧ Sub l3 l2 ∧ WF n sc t b k l3 s2 K) ∨ (x = .brk ∧ K .next l2 s2)) : WF n sc t b (k + 1) ls σ K := by
  obtain ⟨_, _, h1, rfl, x, _, _, h2, ⟨l3, hg, hw, _, _, _, h3, k⟩ | ⟨rfl, k⟩⟩ := h
  · exact ⟨_, _, _, .on h1 h2 hg hw h3, k⟩
  · exact ⟨_, _, _, .brk h1 h2, k⟩
end
end Lm
end
section
open PySem PySem.W PyProof.Rows
set_option Elab.async false
set_option autoImplicit false
set_option linter.unusedVariables false
set_option maxRecDepth 100000
set_option tactic.hygienic false
namespace Lm
theorem W_eq {α : Type} {x : α → Prop} {a : α} (h : W x (· = a)) : x a := by
  obtain ⟨b, h, rfl⟩ := h; exact h
theorem W_of {α : Type} {x : α → Prop} {a : α} {Q : α → Prop} (h : x a) (k : Q a) : W x Q := ⟨a, h, k⟩
theorem bTF {C : Prop} (e : true = false) : C := bT e
theorem bFT {C : Prop} (e : false = true) : C := bF e
-- truth of conditions
section
variable {p : Prop} [Decidable p] {a b : Bool}
theorem dT (h : p) : decide p = true := decide_eq_true h
theorem dF (h : ¬ p) : decide p = false := decide_eq_false h
theorem nT (h : a = false) : (!a) = true := by rw [h]; rfl
theorem nF (h : a = true) : (!a) = false := by rw [h]; rfl
theorem aT (h : a = true) (k : b = true) : (a && b) = true := by rw [h, k]; rfl
theorem aF (h : a = false) : (a && b) = false := by rw [h]; rfl
theorem aF' (h : b = false) : (a && b) = false := by rw [h]; cases a <;> rfl
theorem oT (h : a = true) : (a || b) = true := by rw [h]; rfl
theorem oT' (h : b = true) : (a || b) = true := by rw [h]; cases a <;> rfl
theorem oF (h : a = false) (k : b = false) : (a || b) = false := by rw [h, k]; rfl
end
-- the state's heap
section
variable {σ : St} {l q : Loc} {o : Option AO} {x : AO} {a b : Nat}
theorem set_ne (h : q ≠ l) : (σ.set l o).H q = σ.H q := if_neg h
theorem set_eq : (σ.set l o).H l = o := if_pos rfl
theorem new_ne (h : q ≠ l) : (σ.new l x).H q = σ.H q := if_neg h
theorem new_eq : (σ.new l x).H l = some x := if_pos rfl
theorem drop_ne (h : q ≠ l) : (σ.drop l).H q = σ.H q := if_neg h
theorem dne (h : a ≠ b) : Loc.d a ≠ Loc.d b := fun e => h (by injection e)
theorem lne (h : a ≠ b) : Loc.l a ≠ Loc.l b := fun e => h (by injection e)
theorem ine (h : a ≠ b) : Loc.i a ≠ Loc.i b := fun e => h (by injection e)
theorem il : Loc.i a ≠ Loc.l b := fun e => nomatch e
theorem id' : Loc.i a ≠ Loc.d b := fun e => nomatch e
theorem li : Loc.l a ≠ Loc.i b := fun e => nomatch e
theorem ld : Loc.l a ≠ Loc.d b := fun e => nomatch e
theorem di : Loc.d a ≠ Loc.i b := fun e => nomatch e
theorem dl : Loc.d a ≠ Loc.l b := fun e => nomatch e
end
-- the machine's own functions on things whose size is known to be small
section
variable {σ : St} {i j a b : Int} {x y : Array UInt8} {l m : List PV} {p q : PV}
theorem bMul (h : j.natAbs < 18446744073709551616) : binop .Mult (.int i) (.int j) = some (.int (i * j)) := by
  show Option.map _ (if _ then _ else _) = _; rw [if_pos (.inr h)]; rfl
theorem bMul' (h : i.natAbs < 18446744073709551616) : binop .Mult (.int i) (.int j) = some (.int (i * j)) := by
  show Option.map _ (if _ then _ else _) = _; rw [if_pos (.inl h)]; rfl
theorem bMod (h : j ≠ 0) : binop .Mod (.int i) (.int j) = some (.int (i.fmod j)) := by
  show Option.map _ (if _ then _ else _) = _; rw [if_pos h]; rfl
theorem bDiv (h : j ≠ 0) (h1 : j.natAbs < 1073741824) : binop .FloorDiv (.int i) (.int j) = some (.int (i.fdiv j)) := by
  show Option.map _ (if _ then _ else _) = _; rw [if_pos ⟨h, h1⟩]; rfl
theorem bShl (h : 0 ≤ j ∧ j ≤ 1000000) (h1 : i.natAbs < 18446744073709551616) : binop .LShift (.int i) (.int j) = some (.int (i * 2 ^ j.toNat)) := by
  show Option.map _ (if _ then _ else _) = _; rw [if_pos ⟨h.1, h.2, h1⟩]; rfl
theorem bCat {x y : List UInt8} (h : x.length + y.length ≤ 16777216) : binop .Add (.bytes x.toArray) (.bytes y.toArray) = some (.bytes (x ++ y).toArray) := (if_pos ⟨rfl, h⟩).trans (by rw [List.append_toArray])
theorem bApp (h : l.length + m.length ≤ 16777216) : binop .Add (.lst l) (.lst m) = some (.lst (l ++ m)) := if_pos ⟨rfl, h⟩
theorem lenB (h : x.size ≤ 1099511627776) : bcall σ .len [.bytes x] = some (.int x.size) := if_pos h
theorem lenL (h : l.length ≤ 16777216) : bcall σ .len [.lst l] = some (.int l.length) := if_pos h
theorem byB1 (h : 0 ≤ i) (h1 : i < 256) : bcall σ .bytes [.lst [.int i]] = some (.bytes [i.toNat.toUInt8].toArray) := if_pos ⟨by simp [byteOk, h, h1], Nat.le_of_ble_eq_true rfl⟩
theorem byB2 (h : 0 ≤ i) (h1 : i < 256) (k : 0 ≤ j) (k1 : j < 256) : bcall σ .bytes [.lst [.int i, .int j]] = some (.bytes [i.toNat.toUInt8, j.toNat.toUInt8].toArray) := if_pos ⟨by simp [byteOk, h, h1, k, k1], Nat.le_of_ble_eq_true rfl⟩
theorem subO {r : Loc} {o : AO} (h : σ.H r = some o) : subv σ (.obj r) q = atO o q := by
  show (σ.H r).bind _ = _; rw [h]; rfl
theorem subL0 {r : Loc} (h : σ.H r = some (.lst (p :: l))) : subv σ (.obj r) (.int 0) = some p := (subO h).trans rfl
theorem subL1 {r : Loc} (h : σ.H r = some (.lst (p :: q :: l))) : subv σ (.obj r) (.int 1) = some q := (subO h).trans rfl
theorem subDi {r : Loc} {es : List (Int × PV)} (h : σ.H r = some (.di es)) (hv : vat es i = some p) : subv σ (.obj r) (.int i) = some p := (subO h).trans hv
theorem subDs {r : Loc} {es : List (Str × PV)} {k : Str} (h : σ.H r = some (.ds es)) (hv : vat es k = some p) : subv σ (.obj r) (.str k) = some p := (subO h).trans hv
theorem subDn {r : Loc} {es : List (NK × PV)} {k : NK} (h : σ.H r = some (.dn es)) (hv : vat es k = some p) : subv σ (.obj r) (nkPV k) = some p := (subO h).trans hv
theorem stoO {r : Loc} {o x : AO} (h : σ.H r = some o) (hx : setO o p q = some x) : setItemv σ (.obj r) p q = some (σ.set r (some x)) := by
  show (σ.H r).bind _ = _; rw [h]
  show (setO o p q).bind _ = _; rw [hx]; rfl
theorem stoL0 {r : Loc} (h : σ.H r = some (.lst (p :: l))) : setItemv σ (.obj r) (.int 0) q = some (σ.set r (some (.lst (q :: l)))) := stoO h (if_pos ⟨by decide, by show (0 : Int) < ((l.length + 1 : Nat) : Int); lia, by decide⟩)
theorem stoL1 {r : Loc} {u : PV} (h : σ.H r = some (.lst (p :: u :: l))) : setItemv σ (.obj r) (.int 1) q = some (σ.set r (some (.lst (p :: q :: l)))) := stoO h (if_pos ⟨by decide, by show (1 : Int) < ((l.length + 1 + 1 : Nat) : Int); lia, by decide⟩)
theorem stoDi {r : Loc} {es : List (Int × PV)} (h : σ.H r = some (.di es)) (hl : es.length ≤ 1000000) : setItemv σ (.obj r) (.int i) q = some (σ.set r (some (.di (sto es i q)))) := stoO h (if_pos hl)
theorem stoDs {r : Loc} {es : List (Str × PV)} {k : Str} (h : σ.H r = some (.ds es)) (hl : es.length ≤ 1000000) : setItemv σ (.obj r) (.str k) q = some (σ.set r (some (.ds (sto es k q)))) := stoO h (if_pos hl)
theorem stoDn {r : Loc} {es : List (NK × PV)} {k : NK} (h : σ.H r = some (.dn es)) (hl : es.length ≤ 1000000) : setItemv σ (.obj r) (nkPV k) q = some (σ.set r (some (.dn (sto es k q)))) := stoO h (if_pos hl)
theorem lenDn {r : Loc} {es : List (NK × PV)} (h : σ.H r = some (.dn es)) (hl : es.length ≤ 16777216) : bcall σ .len [.obj r] = some (.int es.length) := by
  show ((σ.H r).bind _) = _
  rw [h]; show Option.map _ (if _ then _ else _) = _; rw [if_pos hl]; rfl
theorem inDi {r : Loc} {es : List (Int × PV)} (h : σ.H r = some (.di es)) : cmpc σ .In (.int i) (.obj r) = some (vat es i).isSome := by
  show Option.map _ (diAt σ r) = _
  unfold diAt; rw [h]; rfl
theorem niDi {r : Loc} {es : List (Int × PV)} (h : σ.H r = some (.di es)) : cmpc σ .NotIn (.int i) (.obj r) = some (!(vat es i).isSome) := by
  show Option.map _ (diAt σ r) = _
  unfold diAt; rw [h]; rfl
theorem itDi {r : Loc} {es : List (Int × PV)} (h : σ.H r = some (.di es)) : items σ (.obj r) = some (es.map (fun e => .int e.1), some r) := by
  show (σ.H r).bind _ = _; rw [h]; rfl
theorem soO {r : Loc} {o : AO} (h : σ.H r = some o) : sortv σ (.obj r) = (sortO o).bind fun l => if sortKind l then (sortL l).map .lst else none := by
  show ((σ.H r).bind sortO).bind _ = _; rw [h]; rfl
theorem soL : sortv σ (.lst l) = if sortKind l then (sortL l).map .lst else none := rfl
theorem slcOb {r : Loc} {lo hi : Option Int} (h : σ.H r = some (.lst l)) : slcS σ (.obj r) lo hi = slcv (.lst l) lo hi := by
  show ((σ.H r).bind fun o => (asLs o).bind fun l' => slcv (.lst l') lo hi) = _; rw [h]; rfl
theorem join4 {a b c d : List UInt8} {Q : PV × St → Prop} (h : a.length + b.length + c.length + d.length ≤ 16777216) (k : Q (.bytes (a ++ b ++ c ++ d).toArray, σ)) : W (McR σ .join (.bytes #[]) [.lst [.bytes a.toArray, .bytes b.toArray, .bytes c.toArray, .bytes d.toArray]]) Q := ⟨_, .join rfl h, by rw [← List.append_toArray, ← List.append_toArray, ← List.append_toArray] at k; exact k⟩
end
end Lm
end
section
set_option autoImplicit false
set_option maxRecDepth 100000
set_option maxHeartbeats 1000000
set_option tactic.hygienic false
namespace Lm
noncomputable def be2 (i : Int) : List UInt8 := [(i / 256 % 256).toNat.toUInt8, (i % 256).toNat.toUInt8]
noncomputable def strE (s : String) : PV := .str (Str.ofString s)
section
variable {n : Nat} {σ : St} {Q : PV × St → Prop}
theorem put_number_ok (i : Int) (h : 0 ≤ i) (h1 : i < 65536) : callF tbl (n + 20) F_put_number [.int i, .int 2] σ (.bytes (be2 i).toArray, σ) := by
  apply W_eq
  refine rC rfl ?_
  refine qF0 rfl (nF (aT (dT h) (dT h1))) ?_
  refine qR (rBi rfl rfl (sC (rCo (c1 rfl rfl (iR rfl (sP rfl ⟨_, rfl, ?_⟩))))))
  refine cC (u0 rfl rfl (rP rfl ⟨_, rfl, Sub.rfl, ?_⟩))
  refine cC (u0 rfl rfl (rP rfl ⟨_, rfl, Sub.rfl, ?_⟩))
  refine cN ⟨Nat.le_of_ble_eq_true rfl, ?_⟩
  refine s0 ⟨Nat.zero_le _, ?_⟩
  have e1 : Builtin.bitAnd (i.fdiv 256) 255 = i / 256 % 256 := by rw [bitAnd_m8, Int.fdiv_eq_ediv_of_nonneg _ (by decide)]
  have e2 : Builtin.bitAnd (i.fdiv 1) 255 = i % 256 := by rw [bitAnd_m8, Int.fdiv_eq_ediv_of_nonneg _ (by decide), Int.ediv_one]
  refine ⟨_, byB2 (i := Builtin.bitAnd (i.fdiv 256) 255) (j := Builtin.bitAnd (i.fdiv 1) 255) ?_ ?_ ?_ ?_, ?_⟩
  · rw [e1]; lia
  · rw [e1]; lia
  · rw [e2]; lia
  · rw [e2]; lia
  · show (PV.bytes _, σ) = (PV.bytes _, σ)
    rw [e1, e2]; rfl
theorem put16_ok (i : Int) (h : 0 ≤ i) (h1 : i < 65536) : callF tbl (n + 24) F_put16 [.int i] σ (.bytes (be2 i).toArray, σ) :=
  W_eq (rC rfl (qR (rCall rfl rfl (sP rfl (W_of (put_number_ok i h h1) rfl)))))
theorem row_octets_ok (k : Int) (b : List UInt8) (h : 0 ≤ k) (h1 : k < 128) (hb : b.length ≤ 20) : callF tbl (n + 28) F_row_octets [.int k, .bytes b.toArray] σ (.bytes (be2 (k * 512 + b.length) ++ b).toArray, σ) := by
  apply W_eq
  refine rC rfl ?_
  have e2 : b.length ≤ 1099511627776 := by lia
  refine qI' (tC (rBi rfl rfl (sP rfl ⟨_, lenB e2, rP rfl ⟨_, rfl, fun e => ?_, fun _ => q0 ?_⟩⟩)))
  · have := of_decide_eq_true e
    have h3 : ((511 : Int) < b.length) := this
    lia
  · refine qR (rBin (rCall rfl rfl (sC (rBin ?_))))
    refine rBin (rP rfl (rP rfl ⟨_, bMul (by decide), ?_⟩))
    refine rBi rfl rfl (sP rfl ⟨_, lenB e2, ⟨_, rfl, s0 ⟨Nat.zero_le _, ?_⟩⟩⟩)
    refine W_of (put16_ok (k * 512 + b.length) (by lia) (by lia)) (rP rfl ⟨_, bCat ?_, ?_⟩)
    · simp [be2]; lia
    · rfl
theorem sized_text_ok (b : List UInt8) (m : Int) (h : m ≤ b.length) (hb : b.length ≤ 20) : callF tbl (n + 8) F_sized_text [.bytes b.toArray, .int m] σ (.bytes b.toArray, σ) := by
  apply W_eq
  have e1 : ¬ (255 : Int) < b.length := by lia
  have e2 : b.length ≤ 1099511627776 := by lia
  refine rC rfl (qI' (tN (tC2 (rP rfl (rBi rfl rfl (sP rfl ⟨_, lenB e2, congrArg some (dT h), rP rfl ⟨_, rfl, fun e => ?_, fun _ => q0 (qRP rfl rfl)⟩⟩))))))
  have e3 : (b.length : Int) ≤ 255 := by lia
  exact nomatch (nF (dT e3)).symm.trans e
theorem be2b {i : Int} {x : List UInt8} {y : Array UInt8} (h : y = (be2 i ++ x).toArray) : ((PV.bytes y, σ) : PV × St) = (.bytes (be2 i ++ x).toArray, σ) := by rw [h]
theorem packed_c (b : List UInt8) (h : 1 ≤ b.length) (hb : b.length ≤ 2) : callF tbl (n + 34) F_packed_row [.tup [strE "chassis", .int 7, .bytes b.toArray]] σ (.bytes (be2 (512 + (b.length + 1 : Nat)) ++ 7 :: b).toArray, σ) := by
  apply W_eq
  refine rC rfl ?_
  refine qAP rfl rfl rfl ?_; refine qT' rfl ?_; refine qA rfl rfl ?_; refine rIT rfl ?_; refine rP rfl ?_; refine qR ?_; refine rCall rfl rfl ?_; refine sC ?_; refine rP rfl ?_; refine sC ?_; refine rBin ?_; refine rP rfl ?_; refine rCall rfl rfl ?_; refine sP rfl ?_
  refine W_of (sized_text_ok b 1 (by lia) (by lia)) ⟨_, bCat (by show 1 + b.length ≤ _; lia), ?_⟩
  refine sP rfl ?_; refine ⟨Nat.le_of_ble_eq_true rfl, ?_⟩; refine ⟨Nat.le_of_ble_eq_true rfl, ?_⟩
  refine W_of (row_octets_ok 1 (7 :: b) (by decide) (by decide) (by show b.length + 1 ≤ 20; lia)) rfl
theorem packed_p (b : List UInt8) (h : 1 ≤ b.length) (hb : b.length ≤ 2) : callF tbl (n + 34) F_packed_row [.tup [strE "port", .int 5, .bytes b.toArray]] σ (.bytes (be2 (1024 + (b.length + 1 : Nat)) ++ 5 :: b).toArray, σ) := by
  apply W_eq
  refine rC rfl ?_
  refine qAP rfl rfl rfl ?_; refine qT' rfl ?_; refine qA rfl rfl ?_; refine rIF rfl ?_; refine rP rfl ?_; refine qR ?_; refine rCall rfl rfl ?_; refine sC ?_; refine rP rfl ?_; refine sC ?_; refine rBin ?_; refine rP rfl ?_; refine rCall rfl rfl ?_; refine sP rfl ?_
  refine W_of (sized_text_ok b 1 (by lia) (by lia)) ⟨_, bCat (by show 1 + b.length ≤ _; lia), ?_⟩
  refine sP rfl ?_; refine ⟨Nat.le_of_ble_eq_true rfl, ?_⟩; refine ⟨Nat.le_of_ble_eq_true rfl, ?_⟩
  refine W_of (row_octets_ok 2 (5 :: b) (by decide) (by decide) (by show b.length + 1 ≤ 20; lia)) rfl
theorem packed_s (b : List UInt8) (hb : b.length ≤ 2) : callF tbl (n + 34) F_packed_row [.tup [strE "system text", .bytes b.toArray]] σ (.bytes (be2 (3072 + b.length) ++ b).toArray, σ) := by
  apply W_eq
  refine rC rfl ?_
  refine qAP rfl rfl rfl ?_; refine qF' rfl ?_; refine qF' rfl ?_; refine qT' rfl ?_; refine qR ?_; refine rCall rfl rfl ?_; refine sC ?_; refine rP rfl ?_; refine sC ?_; refine rCall rfl rfl ?_; refine sP rfl ?_
  refine W_of (sized_text_ok b 0 (by lia) (by lia)) ?_
  refine sP rfl ?_; refine ⟨Nat.le_of_ble_eq_true rfl, ?_⟩; refine ⟨Nat.le_of_ble_eq_true rfl, ?_⟩
  refine W_of (row_octets_ok 6 b (by decide) (by decide) (by lia)) rfl
theorem packed_t (i : Int) (h : 0 ≤ i) (h1 : i < 65536) : callF tbl (n + 34) F_packed_row [.tup [strE "time", .int i]] σ (.bytes (be2 1538 ++ be2 i).toArray, σ) := by
  apply W_eq
  refine rC rfl ?_
  refine qAP rfl rfl rfl ?_; refine qF' rfl ?_; refine qT' rfl ?_; refine qR ?_; refine rCall rfl rfl ?_; refine sC ?_; refine rP rfl ?_; refine sC ?_; refine rCall rfl rfl ?_; refine sP rfl ?_
  refine W_of (put16_ok i h h1) ?_
  refine sP rfl ?_; refine ⟨Nat.le_of_ble_eq_true rfl, ?_⟩; refine ⟨Nat.le_of_ble_eq_true rfl, ?_⟩
  refine W_of (row_octets_ok 3 (be2 i) (by decide) (by decide) (Nat.le_of_ble_eq_true rfl)) rfl
noncomputable def wordsL (ch t : List UInt8) (s : Int) : List PV := [.tup [strE "chassis", .int 7, .bytes ch.toArray], .tup [strE "port", .int 5, .bytes [101, 49].toArray], .tup [strE "time", .int s], .tup [strE "system text", .bytes t.toArray]]
theorem check_order_ok (ch t : List UInt8) (s : Int) : callF tbl (n + 20) F_check_order [.lst (wordsL ch t s)] σ (.none, σ) := by
  apply W_eq
  refine rC rfl ?_
  refine qI' ?_; refine tC ?_; refine rBi rfl rfl ?_; refine sC ?_; refine rCo ?_; refine c1 rfl rfl ?_; refine iE' ?_; refine rP rfl ?_; refine ⟨_, _, rfl, ?_⟩; refine cC ?_; refine u0 rfl rfl ?_; refine rP rfl ?_; refine ⟨_, rfl, Sub.rfl, ?_⟩; refine cC ?_; refine u0 rfl rfl ?_; refine rP rfl ?_; refine ⟨_, rfl, Sub.rfl, ?_⟩; refine cC ?_; refine u0 rfl rfl ?_; refine rP rfl ?_; refine ⟨_, rfl, Sub.rfl, ?_⟩; refine cN ?_; refine ⟨Nat.le_of_ble_eq_true rfl, ?_⟩; refine sP rfl ?_; refine ⟨Nat.le_of_ble_eq_true rfl, ?_⟩; refine ⟨_, rfl, ?_⟩; refine rP rfl ?_; refine ⟨_, rfl, ?_⟩; refine ⟨fun e => bFT e, fun _ => ?_⟩; refine q0 ?_; refine qI' ?_; refine tC ?_; refine rCo ?_; refine c1 rfl rfl ?_; refine iE' ?_; refine rP rfl ?_; refine ⟨_, _, rfl, ?_⟩; refine cC ?_; refine u1 (c := false) rfl rfl rfl (fun e => bFT e) (fun _ => ?_); refine ⟨_, rfl, Sub.rfl, ?_⟩; refine cN ?_; refine ⟨Nat.le_of_ble_eq_true rfl, ?_⟩; refine rP rfl ?_; refine ⟨_, rfl, ?_⟩; refine ⟨fun e => bFT e, fun _ => ?_⟩; refine q0 ?_; refine q0 ?_
  rfl
end
noncomputable def pay (c : UInt8) (t : List UInt8) (s : Int) : List UInt8 := [2, 2, 7, c, 4, 3, 5, 101, 49, 6, 2] ++ (be2 s ++ ([12, t.length.toUInt8] ++ (t ++ [0, 0])))
theorem be2_t (k : Nat) (h : k ≤ 2) : be2 (3072 + k) = [12, k.toUInt8] := by
  have : k = 0 ∨ k = 1 ∨ k = 2 := by lia
  rcases this with rfl | rfl | rfl <;> rfl
section
variable {n : Nat} {σ : St} {Q : PV × St → Prop}
theorem pack_rows_ok (c : UInt8) (t : List UInt8) (s : Int) (ht : t.length ≤ 2) (h : 0 ≤ s) (h1 : s < 65536) : callF tbl (n + 42) F_pack_rows [.lst (wordsL [c] t s)] σ (.bytes (pay c t s).toArray, σ) := by
  apply W_eq
  refine rC rfl ?_
  refine qX rfl ?_; refine rCall rfl rfl ?_; refine sP rfl ?_
  refine W_of (check_order_ok [c] t s) ?_
  refine qR ?_; refine rBin ?_; refine rMb rfl (by decide) rfl ?_; refine rP rfl ?_; refine ⟨_, MkR.join, ?_⟩; refine sC ?_; refine rCo ?_; refine c1 rfl rfl ?_; refine iE' ?_; refine rP rfl ?_; refine ⟨_, _, rfl, ?_⟩; refine cC ?_; refine u0 rfl rfl ?_; refine rCall rfl rfl ?_; refine sP rfl ?_
  refine W_of (packed_c [c] (Nat.le_refl 1) (Nat.le_succ 1)) ?_
  refine ⟨_, rfl, Sub.rfl, ?_⟩; refine cC ?_; refine u0 rfl rfl ?_; refine rCall rfl rfl ?_; refine sP rfl ?_
  refine W_of (packed_p [101, 49] (by decide) (by decide)) ?_
  refine ⟨_, rfl, Sub.rfl, ?_⟩; refine cC ?_; refine u0 rfl rfl ?_; refine rCall rfl rfl ?_; refine sP rfl ?_
  refine W_of (packed_t s h h1) ?_
  refine ⟨_, rfl, Sub.rfl, ?_⟩; refine cC ?_; refine u0 rfl rfl ?_; refine rCall rfl rfl ?_; refine sP rfl ?_
  refine W_of (packed_s t ht) ?_
  refine ⟨_, rfl, Sub.rfl, ?_⟩; refine cN ?_; refine ⟨Nat.le_of_ble_eq_true rfl, ?_⟩; refine sP rfl ?_; refine ⟨Nat.le_of_ble_eq_true rfl, ?_⟩
  refine join4 (by simp [be2]; lia) ?_
  refine rCall rfl rfl ?_; refine sP rfl ?_
  refine W_of (row_octets_ok 0 [] (by decide) (by decide) (by decide)) ⟨_, bCat (by simp [be2]; lia), ?_⟩
  refine congrArg (fun l => ((PV.bytes (List.toArray l), σ) : PV × St)) ?_
  unfold pay
  have d1 : be2 (512 + (([c].length + 1 : Nat) : Int)) = [2, 2] := by show be2 514 = _; decide +kernel
  have d2 : be2 (1024 + ((([101, 49] : List UInt8).length + 1 : Nat) : Int)) = [4, 3] := by decide +kernel
  have d3 : be2 1538 = [6, 2] := by decide +kernel
  have d4 : be2 (0 * 512 + (([] : List UInt8).length : Int)) = [0, 0] := by decide +kernel
  rw [d1, d2, d3, d4, be2_t t.length ht]
  simp only [List.append_assoc, List.cons_append, List.nil_append, List.append_nil]
end

theorem or_256 (x y : UInt8) : Builtin.bitOr ((x.toNat : Int) * 256) y.toNat = x.toNat * 256 + y.toNat := by
  rw [bitOr_and, bitAnd_pp (by lia) (by lia)]
  have e : ((x.toNat : Int) * 256).toNat = x.toNat * 256 := by lia
  rw [e, Int.toNat_natCast]
  have h1 : y.toNat = y.toNat &&& (2 ^ 8 - 1) := by rw [Nat.and_two_pow_sub_one_eq_mod]; have := y.toNat_lt; lia
  have h2 : x.toNat * 256 &&& y.toNat = 0 := by
    rw [h1, Nat.and_comm y.toNat, ← Nat.and_assoc, Nat.and_two_pow_sub_one_eq_mod]
    rw [show x.toNat * 256 % 2 ^ 8 = 0 by lia, Nat.zero_and]
  rw [h2]; lia
theorem or_0 (x : UInt8) : Builtin.bitOr 0 (x.toNat : Int) = x.toNat := by
  rw [bitOr_and, bitAnd_comm, bitAnd_zero]; lia
section
variable {n : Nat} {σ : St}
theorem clip_in {n : Nat} {i : Int} (h : 0 ≤ i) (h1 : i ≤ n) : clipAt n i = i.toNat := by
  unfold clipAt; rw [if_neg (by lia)]; lia
theorem slcB {l : List UInt8} {i j : Int} (hl : l.length ≤ 16777216) (h : 0 ≤ i) (h1 : i ≤ l.length) (k : 0 ≤ j) (k1 : j ≤ l.length) : slcS σ (.bytes l.toArray) (some i) (some j) = some (.bytes ((l.drop i.toNat).take (j.toNat - i.toNat)).toArray) := by
  show (if _ then _ else _) = _
  rw [if_pos (show l.toArray.size ≤ 16777216 from hl)]
  show some (PV.bytes (((l.drop (clipAt l.length i)).take (clipAt l.length j - clipAt l.length i)).toArray)) = _
  rw [clip_in h h1, clip_in k k1]
theorem slcB0 {l : List UInt8} {i : Int} (hl : l.length ≤ 16777216) (h : 0 ≤ i) (h1 : i ≤ l.length) : slcS σ (.bytes l.toArray) (some i) none = some (.bytes (l.drop i.toNat).toArray) := by
  show (if _ then _ else _) = _
  rw [if_pos (show l.toArray.size ≤ 16777216 from hl)]
  show some (PV.bytes (((l.drop (clipAt l.length i)).take (l.length - clipAt l.length i)).toArray)) = _
  rw [clip_in h h1, List.take_of_length_le (by rw [List.length_drop]; exact Nat.le_refl _)]
theorem get_number_ok (l : List UInt8) (a : Int) (x y : UInt8) (r : List UInt8) (ha : 0 ≤ a) (hd : l.drop a.toNat = x :: y :: r) (hl : l.length ≤ 1000) : callF tbl (n + 12) F_get_number [.bytes l.toArray, .int a, .int 2] σ (.int (x.toNat * 256 + y.toNat), σ) := by
  have hlen : a.toNat + 2 ≤ l.length := by
    have := congrArg List.length hd
    rw [List.length_drop] at this
    simp only [List.length_cons] at this
    lia
  have e1 : ¬ a < 0 := by lia
  have e2 : l.length ≤ 1099511627776 := by lia
  have e3 : ¬ (l.length : Int) < a + 2 := by lia
  apply W_eq
  refine rC rfl (qFE (tOrF rfl (dF e1) (tOne (tC ?_))))
  have hs : ∀ σ : St, slcS σ (.bytes l.toArray) (some a) (some (a + 2)) = some (.bytes [x, y].toArray) := fun σ => by
    rw [slcB (by lia) ha (by lia) (by lia) (by lia), hd, show (a + 2).toNat - a.toNat = 2 by lia]; rfl
  refine rP rfl ?_; refine rBi rfl rfl ?_; refine sP rfl ?_; refine ⟨_, lenB (by assumption), ?_⟩; refine ⟨_, rfl, ?_⟩
  refine ⟨dF e3, ?_⟩
  refine qAP rfl rfl rfl (qFo rfl (iE' (rSlc (rP rfl ⟨_, _, _, rfl, rfl, hs _, _, _, rfl, ?_⟩))))
  refine lC rfl ?_
  refine qAP rfl rfl rfl ?_; refine q0 ?_; refine .inl ⟨_, rfl, rfl, Sub.rfl, ?_⟩; refine lC rfl ?_; refine qA rfl rfl ?_; refine rBin ?_; refine rBin ?_; refine rP rfl ?_; refine rP rfl ?_
  refine ⟨_, bShl (i := Builtin.bitOr 0 x.toNat) (by decide) ?_, ?_⟩
  · rw [or_0]; have := x.toNat_lt; lia
  refine rP rfl ?_; refine ⟨_, rfl, ?_⟩; refine q0 ?_; refine .inl ⟨_, rfl, rfl, Sub.rfl, ?_⟩; refine lN ?_; refine qRP rfl ?_
  show (PV.int (Builtin.bitOr (Builtin.bitOr 0 x.toNat * 256) y.toNat), σ) = _
  rw [or_0, or_256]
theorem get16_ok (l : List UInt8) (a : Int) (x y : UInt8) (r : List UInt8) (ha : 0 ≤ a) (hd : l.drop a.toNat = x :: y :: r) (hl : l.length ≤ 1000) : callF tbl (n + 16) F_get16 [.bytes l.toArray, .int a] σ (.int (x.toNat * 256 + y.toNat), σ) :=
  W_eq (rC rfl (qR (rCall rfl rfl (sP rfl (W_of (get_number_ok l a x y r ha hd hl) rfl)))))
theorem sub0 {x : UInt8} {b : List UInt8} (h : b.length ≤ 100) : subv σ (.bytes (x :: b).toArray) (.int 0) = some (.int x.toNat) := if_pos ⟨by decide, by show (0 : Int) < ((b.length + 1 : Nat) : Int); lia, by show b.length + 1 ≤ _; lia⟩
theorem slc1 {x : UInt8} {b : List UInt8} (h : b.length ≤ 100) : slcS σ (.bytes (x :: b).toArray) (some 1) none = some (.bytes b.toArray) := slcB0 (by show b.length + 1 ≤ _; lia) (by decide) (by show (1 : Int) ≤ ((b.length + 1 : Nat) : Int); lia)
theorem first_c (x : UInt8) (b : List UInt8) (h : 1 ≤ b.length) (hb : b.length ≤ 2) : callF tbl (n + 22) F_read_first [.int 1, .bytes (x :: b).toArray] σ (.tup [strE "chassis", .int x.toNat, .bytes b.toArray], σ) := by
  have e1 : (x :: b).length ≤ 1099511627776 := by show b.length + 1 ≤ _; lia
  have e2 : (2 : Int) ≤ ((x :: b).length : Int) := by show (2 : Int) ≤ ((b.length + 1 : Nat) : Int); lia
  have e3 : ((x :: b).length : Int) ≤ 256 := by show ((b.length + 1 : Nat) : Int) ≤ _; lia
  refine W_eq (rC rfl (qF' rfl (qFE (tN (tC2 (rP rfl (rBi rfl rfl (sP rfl ⟨_, lenB e1, congrArg some (dT e2), rP rfl ⟨_, rfl, nF (dT e3), ?_⟩⟩))))))))
  refine qR ?_; refine rTup ?_; refine sC ?_; refine rIT rfl ?_; refine rP rfl ?_; refine sC ?_; refine rSub ?_; refine rP rfl ?_; refine rP rfl ?_
  refine ⟨_, sub0 (by lia), sC (rSlc (rP rfl ⟨_, _, _, rfl, rfl, slc1 (by lia), ?_⟩))⟩
  refine sP rfl ?_; refine ⟨Nat.le_of_ble_eq_true rfl, ?_⟩; refine ⟨Nat.le_of_ble_eq_true rfl, ?_⟩; refine ⟨Nat.le_of_ble_eq_true rfl, ?_⟩
  rfl
theorem first_p (x : UInt8) (b : List UInt8) (h : 1 ≤ b.length) (hb : b.length ≤ 2) : callF tbl (n + 22) F_read_first [.int 2, .bytes (x :: b).toArray] σ (.tup [strE "port", .int x.toNat, .bytes b.toArray], σ) := by
  have e1 : (x :: b).length ≤ 1099511627776 := by show b.length + 1 ≤ _; lia
  have e2 : (2 : Int) ≤ ((x :: b).length : Int) := by show (2 : Int) ≤ ((b.length + 1 : Nat) : Int); lia
  have e3 : ((x :: b).length : Int) ≤ 256 := by show ((b.length + 1 : Nat) : Int) ≤ _; lia
  refine W_eq (rC rfl (qF' rfl (qFE (tN (tC2 (rP rfl (rBi rfl rfl (sP rfl ⟨_, lenB e1, congrArg some (dT e2), rP rfl ⟨_, rfl, nF (dT e3), ?_⟩⟩))))))))
  refine qR ?_; refine rTup ?_; refine sC ?_; refine rIF rfl ?_; refine rP rfl ?_; refine sC ?_; refine rSub ?_; refine rP rfl ?_; refine rP rfl ?_
  refine ⟨_, sub0 (by lia), sC (rSlc (rP rfl ⟨_, _, _, rfl, rfl, slc1 (by lia), ?_⟩))⟩
  refine sP rfl ?_; refine ⟨Nat.le_of_ble_eq_true rfl, ?_⟩; refine ⟨Nat.le_of_ble_eq_true rfl, ?_⟩; refine ⟨Nat.le_of_ble_eq_true rfl, ?_⟩
  rfl
theorem first_t (x y : UInt8) : callF tbl (n + 22) F_read_first [.int 3, .bytes [x, y].toArray] σ (.tup [strE "time", .int (x.toNat * 256 + y.toNat)], σ) := by
  refine W_eq (rC rfl ?_)
  refine qT' rfl ?_; refine qF' rfl ?_; refine qR ?_; refine rTup ?_; refine sC ?_; refine rP rfl ?_; refine sC ?_; refine rCall rfl rfl ?_; refine sP rfl ?_
  exact W_of (get16_ok [x, y] 0 x y [] (by decide) rfl (Nat.le_of_ble_eq_true rfl)) (s0 ⟨Nat.zero_le _, ⟨Nat.le_of_ble_eq_true rfl, rfl⟩⟩)
theorem row_c (x : UInt8) (b : List UInt8) (h : 1 ≤ b.length) (hb : b.length ≤ 2) : callF tbl (n + 28) F_read_row [.int 1, .bytes (x :: b).toArray] σ (.tup [strE "chassis", .int x.toNat, .bytes b.toArray], σ) := by
  refine W_eq (rC rfl ?_)
  refine qT' rfl ?_; refine qR ?_; refine rCall rfl rfl ?_; refine sP rfl ?_
  exact W_of (first_c x b h hb) rfl
theorem row_p (x : UInt8) (b : List UInt8) (h : 1 ≤ b.length) (hb : b.length ≤ 2) : callF tbl (n + 28) F_read_row [.int 2, .bytes (x :: b).toArray] σ (.tup [strE "port", .int x.toNat, .bytes b.toArray], σ) := by
  refine W_eq (rC rfl ?_)
  refine qT' rfl ?_; refine qR ?_; refine rCall rfl rfl ?_; refine sP rfl ?_
  exact W_of (first_p x b h hb) rfl
theorem row_t (x y : UInt8) : callF tbl (n + 28) F_read_row [.int 3, .bytes [x, y].toArray] σ (.tup [strE "time", .int (x.toNat * 256 + y.toNat)], σ) := by
  refine W_eq (rC rfl ?_)
  refine qT' rfl ?_; refine qR ?_; refine rCall rfl rfl ?_; refine sP rfl ?_
  exact W_of (first_t x y) rfl
theorem row_s (b : List UInt8) (hb : b.length ≤ 2) : callF tbl (n + 28) F_read_row [.int 6, .bytes b.toArray] σ (.tup [strE "system text", .bytes b.toArray], σ) := by
  have e1 : ¬ (255 : Int) < b.length := by lia
  have e2 : b.length ≤ 1099511627776 := by lia
  refine W_eq (rC rfl ?_)
  refine qF' rfl ?_; refine qFo rfl ?_; refine iE' ?_; refine rP rfl ?_; refine ⟨_, _, rfl, ?_⟩; refine lC rfl ?_; refine qF' rfl ?_; refine q0 ?_; refine .inl ⟨_, rfl, rfl, Sub.rfl, ?_⟩; refine lC rfl ?_; refine qF' rfl ?_; refine q0 ?_; refine .inl ⟨_, rfl, rfl, Sub.rfl, ?_⟩; refine lC rfl ?_; refine qT' rfl ?_; refine qI' ?_; refine tC ?_; refine rBi rfl rfl ?_; refine sP rfl ?_; refine ⟨_, lenB (by assumption), ?_⟩; refine rP rfl ?_; refine ⟨_, rfl, ?_⟩
  refine ⟨fun e => absurd (of_decide_eq_true e) e1, fun _ => ?_⟩
  refine q0 ?_; refine qRP rfl ?_; refine .inr ⟨_, rfl, ?_⟩
  rfl
end

noncomputable def Ext0 (σ σ' : St) : Prop := σ.n ≤ σ'.n ∧ ∀ q : Loc, q.idx < σ.n → σ'.H q = σ.H q
theorem Ext0.refl {σ : St} : Ext0 σ σ := ⟨Nat.le_refl _, fun _ _ => rfl⟩
theorem Ext0.trans {σ σ' σ'' : St} (a : Ext0 σ σ') (b : Ext0 σ' σ'') : Ext0 σ σ'' := ⟨Nat.le_trans a.1 b.1, fun q h => (b.2 q (Nat.lt_of_lt_of_le h a.1)).trans (a.2 q h)⟩
noncomputable def whB : List Stmt → Expr × List Stmt
  | [] => (.Constant .none 0 ⟨0, 0, 0, 0⟩, [])
  | .While t b _ _ :: _ => (t, b)
  | _ :: r => whB r
section
variable {n k : Nat} {σ : St} {ls : Ls} {K : Fl → Ls → St → Prop}
noncomputable def unL (l : List UInt8) (m : Nat) (a : Int) : Ls := [(Str.ofString "octets", .bytes l.toArray), (Str.ofString "rows", .obj (.l m)), (Str.ofString "at", .int a)]
theorem unW_step {l b : List UInt8} {a kd z : Int} {m : Nat} {x y : UInt8} {r : List UInt8} {rows : List PV} {row : PV}
    (hd : l.drop a.toNat = x :: y :: r) (ha : 0 ≤ a) (hl : l.length ≤ 1000) (hk : ((x.toNat : Int) * 256 + y.toNat).fdiv 512 = kd) (hz : ((x.toNat : Int) * 256 + y.toNat).fmod 512 = z) (hk0 : kd ≠ 0) (hz0 : 0 ≤ z) (hal : a + 2 + z ≤ l.length)
    (hb : (l.drop (a + 2).toNat).take z.toNat = b) (hrow : ∀ n σ, callF tbl (n + 28) F_read_row [.int kd, .bytes b.toArray] σ (row, σ)) (hH : σ.H (.l m) = some (.lst rows)) (hrl : rows.length ≤ 1000000)
    (hQ : WF (n + 34) F_unpack_rows.scope (whB F_unpack_rows.body).1 (whB F_unpack_rows.body).2 k (unL l m (a + 2 + z)) (σ.set (.l m) (some (.lst (rows ++ [row])))) K) :
    WF (n + 34) F_unpack_rows.scope (whB F_unpack_rows.body).1 (whB F_unpack_rows.body).2 (k + 1) (unL l m a) σ K := by
  have e1 : ¬ (l.length : Int) < a + 2 + z := by lia
  have e2 : l.length ≤ 1099511627776 := by lia
  subst hk
  subst hz
  have hs : ∀ σ : St, slcS σ (.bytes l.toArray) (some (a + 2)) (some (a + 2 + ((x.toNat : Int) * 256 + y.toNat).fmod 512)) = some (.bytes b.toArray) := fun σ => by
    rw [slcB (by lia) (by lia) (by lia) (by lia) (by lia), show (a + 2 + ((x.toNat : Int) * 256 + y.toNat).fmod 512).toNat - (a + 2).toNat = (((x.toNat : Int) * 256 + y.toNat).fmod 512).toNat by lia, hb]
  refine wOn (tP rfl ⟨rfl, ?_⟩)
  refine qA rfl rfl ?_; refine rCall rfl rfl ?_; refine sP rfl ?_
  refine W_of (get16_ok l a x y r ha hd hl) ?_
  refine qAT rfl ?_; refine sP rfl ?_; refine gN rfl ?_; refine gN rfl ?_; refine g0 ?_; refine qI' ?_; refine tC ?_; refine rP rfl ?_; refine rBi rfl rfl ?_; refine sP rfl ?_; refine ⟨_, lenB (by assumption), ?_⟩; refine ⟨_, rfl, ?_⟩
  refine ⟨fun e => absurd (of_decide_eq_true e) e1, fun _ => ?_⟩
  refine q0 (qF0 rfl (dF hk0) ?_)
  refine qX rfl ?_; refine rMb rfl (by decide) rfl ?_; refine rP rfl ?_; refine ⟨_, MkR.append (by assumption), ?_⟩; refine sC ?_; refine rCall rfl rfl ?_; refine sC ?_; refine rP rfl ?_; refine sC ?_; refine rSlc ?_; refine rP rfl ?_
  refine ⟨_, _, _, rfl, rfl, hs _, ?_⟩
  refine sP rfl ?_; refine ⟨Nat.le_of_ble_eq_true rfl, ?_⟩; refine ⟨Nat.le_of_ble_eq_true rfl, ?_⟩
  refine W_of (hrow _ _) ?_
  refine sP rfl ?_; refine ⟨Nat.le_of_ble_eq_true rfl, ?_⟩
  refine W_of (.append hH hrl) ?_
  refine qAP rfl rfl rfl ?_; refine q0 ?_
  exact .inl ⟨_, rfl, Sub.cons rfl (Sub.cons rfl (Sub.cons rfl Sub.nil)), hQ⟩
theorem unW_end {l : List UInt8} {a : Int} {m : Nat} (hd : l.drop a.toNat = [0, 0]) (ha : 0 ≤ a) (hl : l.length ≤ 1000) (hK : ∀ ls', getV (Str.ofString "rows") ls' = some (.obj (.l m)) → K .next ls' σ) :
    WF (n + 34) F_unpack_rows.scope (whB F_unpack_rows.body).1 (whB F_unpack_rows.body).2 (k + 1) (unL l m a) σ K := by
  have hlen : a.toNat + 2 ≤ l.length := by
    have := congrArg List.length hd
    rw [List.length_drop] at this
    simp only [List.length_cons, List.length_nil] at this
    lia
  have e1 : ¬ (l.length : Int) < a + 2 + 0 := by lia
  have e2 : l.length ≤ 1099511627776 := by lia
  refine wOn (tP rfl ⟨rfl, ?_⟩)
  refine qA rfl rfl ?_; refine rCall rfl rfl ?_; refine sP rfl ?_
  refine W_of (get16_ok l a 0 0 [] ha hd hl) ?_
  refine qAT rfl ?_; refine sP rfl ?_; refine gN rfl ?_; refine gN rfl ?_; refine g0 ?_; refine qI' ?_; refine tC ?_; refine rP rfl ?_; refine rBi rfl rfl ?_; refine sP rfl ?_; refine ⟨_, lenB (by assumption), ?_⟩; refine ⟨_, rfl, ?_⟩
  refine ⟨fun e => absurd (of_decide_eq_true e) e1, fun _ => ?_⟩
  refine q0 ?_; refine qT' rfl ?_; refine qBr ?_
  exact .inr ⟨rfl, hK _ rfl⟩
theorem be2_lh {s : Int} (h : 0 ≤ s) (h1 : s < 65536) : ∃ x y : UInt8, be2 s = [x, y] ∧ (x.toNat : Int) * 256 + y.toNat = s := by
  refine ⟨_, _, rfl, ?_⟩
  have e1 : (s / 256 % 256).toNat < 256 := by lia
  have e2 : (s % 256).toNat < 256 := by lia
  rw [UInt8.toNat_ofNat_of_lt' e1, UInt8.toNat_ofNat_of_lt' e2]
  lia
theorem pay_len (c : UInt8) (t : List UInt8) (s : Int) : (pay c t s).length = 17 + t.length := by simp [pay, be2]; lia
theorem unW_all {c : UInt8} {t : List UInt8} {s : Int} {m : Nat} (ht : t.length ≤ 2) (h : 0 ≤ s) (h1 : s < 65536) (hH : σ.H (.l m) = some (.lst []))
    (hQ : ∀ ls' σ', getV (Str.ofString "rows") ls' = some (.obj (.l m)) → σ'.n = σ.n → σ'.H (.l m) = some (.lst (wordsL [c] t s)) → (∀ q, q ≠ .l m → σ'.H q = σ.H q) → K .next ls' σ') :
    WF (n + 34) F_unpack_rows.scope (whB F_unpack_rows.body).1 (whB F_unpack_rows.body).2 (k + 5) (unL (pay c t s) m 0) σ K := by
  have hl := pay_len c t s
  obtain ⟨x, y, hxy, hs⟩ := be2_lh h h1
  have htl : t.length.toUInt8.toNat = t.length := UInt8.toNat_ofNat_of_lt' (show t.length < 256 by lia)
  have hp : pay c t s = 2 :: 2 :: 7 :: c :: 4 :: 3 :: 5 :: 101 :: 49 :: 6 :: 2 :: x :: y :: 12 :: t.length.toUInt8 :: (t ++ [0, 0]) := by unfold pay; rw [hxy]; rfl
  refine unW_step (a := 0) (kd := 1) (z := 2) (row := .tup [strE "chassis", .int 7, .bytes [c].toArray]) (by rw [hp] <;> rfl) (by decide) (by lia) (by decide) (by decide) (by decide) (by decide) (by lia) (by rw [hp] <;> rfl) (fun n σ => row_c 7 [c] (by simp) (by simp)) hH (by simp) ?_
  refine unW_step (a := 4) (kd := 2) (z := 3) (row := .tup [strE "port", .int 5, .bytes [101, 49].toArray]) (by rw [hp] <;> rfl) (by decide) (by lia) (by decide) (by decide) (by decide) (by decide) (by lia) (by rw [hp] <;> rfl) (fun n σ => row_p 5 [101, 49] (by simp) (by simp)) (by exact set_eq) (by simp) ?_
  refine unW_step (a := 9) (kd := 3) (z := 2) (row := .tup [strE "time", .int s]) (by rw [hp] <;> rfl) (by decide) (by lia) (by decide) (by decide) (by decide) (by decide) (by lia) (by rw [hp] <;> rfl) (fun n σ => by rw [← hs]; exact row_t x y) (by exact set_eq) (by simp) ?_
  refine unW_step (a := 13) (kd := 6) (z := t.length) (b := t) (row := .tup [strE "system text", .bytes t.toArray]) (by rw [hp] <;> rfl) (by decide) (by lia) (by rw [htl, Int.fdiv_eq_ediv_of_nonneg _ (by decide)]; show ((12 : Int) * 256 + t.length) / 512 = 6; lia) (by rw [htl, Int.fmod_eq_emod_of_nonneg _ (by decide)]; show ((12 : Int) * 256 + t.length) % 512 = t.length; lia) (by decide) (by lia) (by lia) (by rw [hp, Int.toNat_natCast]; show List.take t.length (t ++ [0, 0]) = t; rw [List.take_left]) (fun n σ => row_s t ht) (by exact set_eq) (by simp) ?_
  refine unW_end (a := 13 + 2 + t.length) ?_ (by lia) (by lia) fun l5 f1 => ?_
  · rw [hp, show (13 + 2 + (t.length : Int)).toNat = t.length + 15 by lia]
    show List.drop t.length (t ++ [0, 0]) = _
    rw [List.drop_left]
  · exact hQ l5 _ f1 rfl set_eq fun q hq => (set_ne hq).trans ((set_ne hq).trans ((set_ne hq).trans (set_ne hq)))
end

section
variable {n : Nat} {σ : St}
theorem check_order_obj (ch t : List UInt8) (s : Int) (m : Nat) (hH : σ.H (.l m) = some (.lst (wordsL ch t s))) : callF tbl (n + 20) F_check_order [.obj (.l m)] σ (.none, σ) := by
  have e1 : slcS σ (.obj (.l m)) none (some 3) = some (.lst ((wordsL ch t s).take 3)) := slcOb hH
  have e2 : slcS σ (.obj (.l m)) (some 3) none = some (.lst ((wordsL ch t s).drop 3)) := slcOb hH
  refine W_eq (rC rfl ?_)
  refine qI' ?_; refine tC ?_; refine rBi rfl rfl ?_; refine sC ?_; refine rCo ?_; refine c1 rfl rfl ?_; refine iE' ?_; refine rSlc ?_; refine rP rfl ?_
  refine ⟨_, _, _, rfl, rfl, e1, ?_⟩
  refine ⟨_, _, rfl, ?_⟩; refine cC ?_; refine u0 rfl rfl ?_; refine rP rfl ?_; refine ⟨_, rfl, Sub.rfl, ?_⟩; refine cC ?_; refine u0 rfl rfl ?_; refine rP rfl ?_; refine ⟨_, rfl, Sub.rfl, ?_⟩; refine cC ?_; refine u0 rfl rfl ?_; refine rP rfl ?_; refine ⟨_, rfl, Sub.rfl, ?_⟩; refine cN ?_; refine ⟨Nat.le_of_ble_eq_true rfl, ?_⟩; refine sP rfl ?_; refine ⟨Nat.le_of_ble_eq_true rfl, ?_⟩; refine ⟨_, rfl, ?_⟩; refine rP rfl ?_; refine ⟨_, rfl, ?_⟩; refine ⟨fun e => bFT e, fun _ => ?_⟩; refine q0 ?_; refine qI' ?_; refine tC ?_; refine rCo ?_; refine c1 rfl rfl ?_; refine iE' ?_; refine rSlc ?_; refine rP rfl ?_
  refine ⟨_, _, _, rfl, rfl, e2, ?_⟩
  refine ⟨_, _, rfl, ?_⟩; refine cC ?_; refine u1 (c := false) rfl rfl rfl (fun e => bFT e) (fun _ => ?_); refine ⟨_, rfl, Sub.rfl, ?_⟩; refine cN ?_; refine ⟨Nat.le_of_ble_eq_true rfl, ?_⟩; refine rP rfl ?_; refine ⟨_, rfl, ?_⟩; refine ⟨fun e => bFT e, fun _ => ?_⟩; refine q0 ?_; refine q0 ?_
  rfl
theorem unpack_ok {c : UInt8} {t : List UInt8} {s : Int} {Q : PV × St → Prop} (ht : t.length ≤ 2) (h : 0 ≤ s) (h1 : s < 65536) (hQ : ∀ σ', Ext0 σ σ' → Q (.lst (wordsL [c] t s), σ')) : W (callF tbl (n + 40) F_unpack_rows [.bytes (pay c t s).toArray] σ) Q := by
  refine rC rfl (qAT rfl (sC (rLn (s0 (sP rfl ⟨Nat.le_of_ble_eq_true rfl, gN rfl (gN rfl (g0 ?_))⟩)))))
  refine qW (l1 := unL (pay c t s) σ.n 0) (Sub.cons rfl (Sub.cons rfl (Sub.cons rfl Sub.nil))) ?_
  refine qWh (unW_all (k := 0) ht h h1 new_eq fun ls' σ' g1 g2 g3 g4 => ?_)
  refine qW (l1 := [(Str.ofString "rows", .obj (.l σ.n))]) (Sub.cons g1 Sub.nil) ?_
  refine qX rfl ?_; refine rCall rfl rfl ?_; refine sP rfl ?_
  refine W_of (check_order_obj [c] t s σ.n g3) ?_
  refine qRF (rP rfl ⟨_, _, rfl, g3, hQ _ ⟨Nat.le_of_lt (by show σ.n < σ'.n; rw [g2]; exact Nat.lt_succ_self _), fun q hq => ?_⟩⟩)
  have e : q ≠ .l σ.n := fun e => by rw [e] at hq; exact absurd hq (Nat.lt_irrefl _)
  exact (drop_ne e).trans ((g4 q e).trans (new_ne e))
theorem law_words_ok (ch t : List UInt8) (s : Int) : callF tbl (n + 8) F_law_words [.bytes ch.toArray, .bytes t.toArray, .int s] σ (.lst (wordsL ch t s), σ) := by
  refine W_eq (rC rfl ?_)
  refine qRP rfl ?_
  rfl
theorem with_time_ok (ch t : List UInt8) (s0 s : Int) (h1 : s ≤ 65535) : callF tbl (n + 14) F_with_time [.lst (wordsL ch t s0), .int s] σ (.lst (wordsL ch t s), σ) := by
  have e1 : ¬ 65535 < s := by lia
  refine W_eq (rC rfl ?_)
  refine qR ?_; refine rCo ?_; refine c1 rfl rfl ?_; refine iE' ?_; refine rP rfl ?_; refine ⟨_, _, rfl, ?_⟩; refine cC ?_; refine u0 rfl rfl ?_; refine rIF rfl ?_; refine rP rfl ?_; refine ⟨_, rfl, Sub.rfl, ?_⟩; refine cC ?_; refine u0 rfl rfl ?_; refine rIF rfl ?_; refine rP rfl ?_; refine ⟨_, rfl, Sub.rfl, ?_⟩; refine cC ?_; refine u0 rfl rfl ?_; refine rIT rfl ?_; refine rP rfl ?_; refine ⟨_, rfl, Sub.rfl, ?_⟩; refine cC ?_; refine u0 rfl rfl ?_; refine rIF rfl ?_; refine rP rfl ?_; refine ⟨_, rfl, Sub.rfl, ?_⟩; refine cN ?_; refine ⟨Nat.le_of_ble_eq_true rfl, ?_⟩
  show (PV.lst [_, _, .tup [_, .int (if (65535 : Int) < s then 65535 else s)], _], σ) = _
  rw [if_neg e1]; rfl
noncomputable def timesV (a b c : Int) : PV := .inst (Str.ofString "LldpTimes") [Str.ofString "interval", Str.ofString "hold", Str.ofString "fast_interval", Str.ofString "fast_many"] [.int a, .int b, .int 1, .int c]
theorem told_time_ok (a b c : Int) (ha : 0 ≤ a) (ha1 : a ≤ 100) (h1 : a * b + 1 ≤ 65535) : callF tbl (n + 10) M_LldpTimes_told_time [timesV a b c] σ (.int (a * b + 1), σ) := by
  have e1 : ¬ 65535 < a * b + 1 := by lia
  have e2 : a.natAbs < 18446744073709551616 := by lia
  refine W_eq (rC rfl ?_)
  refine qR ?_; refine rBi rfl rfl ?_; refine sC ?_; refine rBin ?_; refine rBin ?_; refine rP rfl ?_; refine rP rfl ?_
  refine ⟨_, bMul' e2, ?_⟩
  refine rP rfl ?_; refine ⟨_, rfl, ?_⟩; refine sP rfl ?_; refine ⟨Nat.le_of_ble_eq_true rfl, ?_⟩; refine ⟨_, rfl, ?_⟩
  show (PV.int (if (65535 : Int) < a * b + 1 then 65535 else a * b + 1), σ) = _
  rw [if_neg e1]
end

section
variable {α β : Type}
noncomputable def srt (key : α → Int) (l : List α) : List α := l.mergeSort fun a b => decide (key a ≤ key b)
theorem srt_perm (key : α → Int) (l : List α) : (srt key l).Perm l := List.mergeSort_perm l _
theorem srt_lt {key : α → Int} {l : List α} (h : l.Pairwise fun a b => key a ≠ key b) : (srt key l).Pairwise fun a b => key a < key b := by
  have h1 : (srt key l).Pairwise fun a b => key a ≠ key b := ((srt_perm key l).pairwise_iff (fun {a b} h => Ne.symm h)).mpr h
  have h2 : (srt key l).Pairwise fun a b => decide (key a ≤ key b) = true := List.pairwise_mergeSort (by intro a b c h1 h2; simp only [decide_eq_true_eq] at *; lia) (by intro a b; simp only [Bool.or_eq_true, decide_eq_true_eq]; lia) l
  refine (h1.and h2).imp fun {a b} h => ?_
  have := of_decide_eq_true h.2
  have := h.1
  lia
theorem srt_uniq {key : α → Int} {l m : List α} (h : m.Pairwise fun a b => key a < key b) (p : m.Perm l) : srt key l = m := by
  have hl : l.Pairwise fun a b => key a ≠ key b := (p.pairwise_iff (fun {a b} h => Ne.symm h)).mp (h.imp fun h => by lia)
  refine List.Perm.eq_of_pairwise (le := fun a b => key a < key b) (fun a b _ _ h1 h2 => by lia) (srt_lt hl) h ((srt_perm key l).trans p.symm)
theorem srt_congr {key : α → Int} {l m : List α} (h : l.Pairwise fun a b => key a ≠ key b) (p : l.Perm m) : srt key l = srt key m :=
  (srt_uniq (srt_lt h) ((srt_perm key l).trans p)).symm
theorem srt_filter {key : α → Int} {l : List α} (h : l.Pairwise fun a b => key a ≠ key b) (c : α → Bool) : (srt key l).filter c = srt key (l.filter c) :=
  (srt_uniq ((srt_lt h).filter c) ((srt_perm key l).filter c)).symm
theorem srt_map {key : α → Int} {key' : β → Int} (g : α → β) (hk : ∀ a, key' (g a) = key a) {l : List α} (h : l.Pairwise fun a b => key a ≠ key b) : srt key' (l.map g) = (srt key l).map g :=
  srt_uniq (List.pairwise_map.mpr ((srt_lt h).imp fun h => by rw [hk, hk]; exact h)) ((srt_perm key l).map g)
theorem srt_mem {key : α → Int} {l : List α} {a : α} : a ∈ srt key l ↔ a ∈ l := (srt_perm key l).mem_iff
theorem srt_len {key : α → Int} {l : List α} : (srt key l).length = l.length := (srt_perm key l).length_eq
theorem runT_imp {lt lt' : Nat → Nat → Option Bool} (h : ∀ i j b, lt i j = some b → lt' i j = some b) : ∀ (t : KasT α) {a : α}, runT lt t = some a → runT lt' t = some a
  | .ret _, _, e => e
  | .ask i j k, a, e => by
    unfold runT at e ⊢
    obtain ⟨b, e1, e2⟩ := Option.bind_eq_some_iff.mp e
    rw [h i j b e1, Option.bind_some]
    exact runT_imp h (k b) e2
noncomputable def rlt (r : List Nat) (i j : Nat) : Option Bool := if i < r.length ∧ j < r.length ∧ i ≠ j then some (decide (r.getD i 0 < r.getD j 0)) else none
theorem kas_01 : runT (rlt [0, 1]) (kas_sort 2) = some #[0, 1] := by decide +kernel
theorem kas_10 : runT (rlt [1, 0]) (kas_sort 2) = some #[1, 0] := by decide +kernel
theorem kas_012 : runT (rlt [0, 1, 2]) (kas_sort 3) = some #[0, 1, 2] := by decide +kernel
theorem kas_021 : runT (rlt [0, 2, 1]) (kas_sort 3) = some #[0, 2, 1] := by decide +kernel
theorem kas_102 : runT (rlt [1, 0, 2]) (kas_sort 3) = some #[1, 0, 2] := by decide +kernel
theorem kas_120 : runT (rlt [1, 2, 0]) (kas_sort 3) = some #[2, 0, 1] := by decide +kernel
theorem kas_201 : runT (rlt [2, 0, 1]) (kas_sort 3) = some #[1, 2, 0] := by decide +kernel
theorem kas_210 : runT (rlt [2, 1, 0]) (kas_sort 3) = some #[2, 1, 0] := by decide +kernel
end
section
variable {α : Type} {key : α → Int} {f : α → PV}
set_option tactic.hygienic true in
theorem sortL_rank (r : List Nat) {l m : List α} {p : Array Nat} (hr : r.length = l.length) (h2 : 2 ≤ l.length) (h3 : l.length ≤ 3) (hk : runT (rlt r) (kas_sort l.length) = some p)
    (hlt : ∀ a b, a ∈ l → b ∈ l → key a ≠ key b → pvlt (f a) (f b) = some (decide (key a < key b)))
    (hrk : ∀ i j a b, l[i]? = some a → l[j]? = some b → i ≠ j → key a ≠ key b ∧ (r.getD i 0 < r.getD j 0 ↔ key a < key b))
    (hp : p.size ≤ 64) (hm : p.toList.map (fun i => (l.map f).getD i .none) = m.map f) : sortL (l.map f) = some (m.map f) := by
  unfold sortL
  rw [List.length_map, if_neg (by lia), if_neg (by lia)]
  have := runT_imp (lt' := fun i j => pvlt ((l.map f).getD i .none) ((l.map f).getD j .none)) (fun i j b e => by
    unfold rlt at e
    split at e
    · rename_i hh
      obtain ⟨h1, h2, h3⟩ := hh
      cases e
      rw [hr] at h1 h2
      have e1 : l[i]? = some l[i] := List.getElem?_eq_getElem h1
      have e2 : l[j]? = some l[j] := List.getElem?_eq_getElem h2
      obtain ⟨k1, k2⟩ := hrk i j _ _ e1 e2 h3
      have g1 : (l.map f).getD i .none = f l[i] := by rw [List.getD_eq_getElem?_getD, List.getElem?_map, e1]; rfl
      have g2 : (l.map f).getD j .none = f l[j] := by rw [List.getD_eq_getElem?_getD, List.getElem?_map, e2]; rfl
      rw [g1, g2, hlt _ _ (List.getElem_mem h1) (List.getElem_mem h2) k1]
      congr 1
      exact decide_eq_decide.mpr k2.symm
    · cases e) _ hk
  rw [this, Option.bind_some, if_pos hp, hm]
theorem sortL_at {l m : List α} (hm : m.Pairwise fun a b => key a < key b) (hpm : m.Perm l) (r : List Nat) (d : α) (hl : l = r.map fun i => m.getD i d) (N : Nat) (hN : l.length = N) (hr : r.length = N) (h2 : 2 ≤ N ∧ N ≤ 3)
    (hn : ∀ i, i < N → r.getD i 0 < N ∧ ∀ j, j < N → i ≠ j → r.getD i 0 ≠ r.getD j 0) {p : Array Nat} (hk : runT (rlt r) (kas_sort N) = some p) (hp : p.size ≤ 64)
    (hmm : p.toList.map (fun i => (l.map f).getD i .none) = m.map f) (hlt : ∀ a b, a ∈ l → b ∈ l → key a ≠ key b → pvlt (f a) (f b) = some (decide (key a < key b))) : sortL (l.map f) = some ((srt key l).map f) := by
  rw [srt_uniq hm hpm]
  have hml : m.length = N := hpm.length_eq.trans hN
  refine sortL_rank (key := key) r (hr.trans hN.symm) (by rw [hN]; exact h2.1) (by rw [hN]; exact h2.2) (by rw [hN]; exact hk) hlt (fun i j a b hx hy hij => ?_) hp hmm
  have at_ : ∀ {i : Nat} {a : α}, l[i]? = some a → i < r.length ∧ m[r.getD i 0]? = some a := by
    intro i a hx
    rw [hl, List.getElem?_map] at hx
    obtain ⟨k, hk, rfl⟩ := Option.map_eq_some_iff.mp hx
    have hi := (List.getElem?_eq_some_iff.mp hk).1
    have hg : r.getD i 0 = k := by rw [List.getD_eq_getElem?_getD, hk]; rfl
    have hb := (hn i (hr ▸ hi)).1
    rw [hg, ← hml] at hb
    rw [hg]
    exact ⟨hi, by rw [List.getD_eq_getElem?_getD, List.getElem?_eq_getElem hb]; rfl⟩
  obtain ⟨hi, hx⟩ := at_ hx
  obtain ⟨hj, hy⟩ := at_ hy
  have hne := (hn i (hr ▸ hi)).2 j (hr ▸ hj) hij
  generalize r.getD i 0 = u at *
  generalize r.getD j 0 = v at *
  obtain ⟨hu, rfl⟩ := List.getElem?_eq_some_iff.mp hx
  obtain ⟨hv, rfl⟩ := List.getElem?_eq_some_iff.mp hy
  have up := List.pairwise_iff_getElem.mp hm
  rcases Nat.lt_or_gt_of_ne hne with h | h
  · have q := up u v hu hv h
    exact ⟨Int.ne_of_lt q, fun _ => q, fun _ => h⟩
  · have q := up v u hv hu h
    exact ⟨Int.ne_of_gt q, fun z => absurd z (Nat.lt_asymm h), fun z => absurd z (Int.not_lt.mpr (Int.le_of_lt q))⟩
theorem sortL_key {l : List α} (h3 : l.length ≤ 3) (hd : l.Pairwise fun a b => key a ≠ key b)
    (hlt : ∀ a b, a ∈ l → b ∈ l → key a ≠ key b → pvlt (f a) (f b) = some (decide (key a < key b))) : sortL (l.map f) = some ((srt key l).map f) := by
  have two : ∀ {x y : α}, key x < key y → [x, y].Pairwise fun a b => key a < key b := fun h => .cons (fun z hz => by rw [List.mem_singleton.mp hz]; exact h) (List.pairwise_singleton _ _)
  have pw : ∀ {x y z : α}, key x < key y → key y < key z → [x, y, z].Pairwise fun a b => key a < key b := fun u v => .cons (fun w hw => by
    rcases List.mem_cons.mp hw with e | hw
    · rw [e]; exact u
    · rw [List.mem_singleton.mp hw]; exact Int.lt_trans u v) (two v)
  have lt : ∀ {x y : α}, key x ≠ key y → ¬ key x < key y → key y < key x := fun h1 h2 => by lia
  cases l with
  | nil => rw [show srt key ([] : List α) = [] from srt_uniq .nil (.refl _)]; rfl
  | cons a l =>
  obtain ⟨ha, hd⟩ := List.pairwise_cons.mp hd
  cases l with
  | nil => rw [show srt key [a] = [a] from srt_uniq (List.pairwise_singleton _ _) (.refl _)]; rfl
  | cons b l =>
  obtain ⟨hb, _⟩ := List.pairwise_cons.mp hd
  have h1 := ha b (List.mem_cons_self ..)
  cases l with
  | nil =>
    by_cases h : key a < key b
    · exact sortL_at (two h) (.refl _) [0, 1] a rfl 2 rfl rfl (by decide) (by decide) kas_01 (by decide) rfl hlt
    · exact sortL_at (two (lt h1 h)) (.swap _ _ _) [1, 0] a rfl 2 rfl rfl (by decide) (by decide) kas_10 (by decide) rfl hlt
  | cons c l =>
  cases l with
  | cons => exact absurd h3 (by simp)
  | nil =>
    have h2 := ha c (by simp)
    have h3 := hb c (by simp)
    have p102 : [b, a, c].Perm [a, b, c] := .swap _ _ _
    have p021 : [a, c, b].Perm [a, b, c] := .cons _ (.swap _ _ _)
    have p120 : [c, a, b].Perm [a, b, c] := (List.Perm.swap a c [b]).trans p021
    have p201 : [b, c, a].Perm [a, b, c] := (List.Perm.cons b (.swap _ _ _)).trans p102
    have p210 : [c, b, a].Perm [a, b, c] := (List.Perm.swap b c [a]).trans p201
    by_cases k1 : key a < key b
    · by_cases k2 : key b < key c
      · exact sortL_at (pw k1 k2) (.refl _) [0, 1, 2] a rfl 3 rfl rfl (by decide) (by decide) kas_012 (by decide) rfl hlt
      · by_cases k3 : key a < key c
        · exact sortL_at (pw k3 (lt h3 k2)) p021 [0, 2, 1] a rfl 3 rfl rfl (by decide) (by decide) kas_021 (by decide) rfl hlt
        · exact sortL_at (pw (lt h2 k3) k1) p120 [1, 2, 0] a rfl 3 rfl rfl (by decide) (by decide) kas_120 (by decide) rfl hlt
    · by_cases k2 : key a < key c
      · exact sortL_at (pw (lt h1 k1) k2) p102 [1, 0, 2] a rfl 3 rfl rfl (by decide) (by decide) kas_102 (by decide) rfl hlt
      · by_cases k3 : key b < key c
        · exact sortL_at (pw k3 (lt h2 k2)) p201 [2, 0, 1] a rfl 3 rfl rfl (by decide) (by decide) kas_201 (by decide) rfl hlt
        · exact sortL_at (pw (lt h3 k3) (lt h1 k1)) p210 [2, 1, 0] a rfl 3 rfl rfl (by decide) (by decide) kas_210 (by decide) rfl hlt
end

noncomputable def fu {α : Type} (f : Int → α) (p : Int) (v : α) (q : Int) : α := if q = p then v else f q
theorem fu_same {α : Type} {f : Int → α} {p : Int} {v : α} : fu f p v p = v := if_pos rfl
theorem fu_ne {α : Type} {f : Int → α} {p q : Int} {v : α} (h : q ≠ p) : fu f p v q = f q := if_neg h
/-- a row of the law: port, who, text, seconds, until -/
structure R where
  port : Int
  who : Int
  txt : List UInt8
  sec : Int
  til : Int
structure G where
  a : Int
  b : Int
  c : Int
  most : Int
  s : Nat
  kP : Nat
  kC : Nat
  kW : Nat
  kS : Nat
structure M where
  ps : List Int
  pl : Int → Nat
  ax : Int → List UInt8
  up : Int → Bool
  aw : Int → Int
  af : Int → Int
  nl : Int → Nat
  nb : Int → List R
  wx : Int → List UInt8
  ord : List Int
  cl : Int → Nat
  cw : Int → Int
  cf : Int → Int
  own : List R
noncomputable def held (g : G) : Int := g.a * g.b + 1
noncomputable def ch48 (p : Int) : List UInt8 := [(48 + p).toNat.toUInt8]
noncomputable def ch65 (w : Int) : List UInt8 := [(65 + w).toNat.toUInt8]
noncomputable def portV (g : G) (p : Int) (x : List UInt8) (u : Bool) (w f : Int) (l : Nat) : AO := .inst (Str.ofString "LldpPort") [Str.ofString "rows", Str.ofString "is_up", Str.ofString "wait", Str.ofString "fast", Str.ofString "neighbours"]
  [.lst (wordsL (ch48 p) x (held g)), .bool u, .int w, .int f, .obj (.d l)]
noncomputable def keyN (w : Int) : NK := ((7, (ch65 w).toArray), (5, [101, 49].toArray))
noncomputable def nbrV (r : R) : PV := .inst (Str.ofString "Neighbour") [Str.ofString "rows", Str.ofString "until"] [.lst (wordsL (ch65 r.who) r.txt r.sec), .int r.til]
noncomputable def nbrE (r : R) : NK × PV := (keyN r.who, nbrV r)
noncomputable def rowV (r : R) : PV := .lst [.int r.port, .int r.who, .bytes r.txt.toArray, .int r.sec, .int r.til]
noncomputable def timesG (g : G) : PV := timesV g.a g.b g.c
noncomputable def agentV (g : G) : PV := .inst (Str.ofString "LldpAgent") [Str.ofString "mac", Str.ofString "times", Str.ofString "most", Str.ofString "ports"] [.int 9, timesG g, .int g.most, .obj (.d g.kP)]
noncomputable def sceneE (g : G) (o : List PV) : List (Str × PV) := [(Str.ofString "own", .lst o), (Str.ofString "clocks", .obj (.d g.kC)), (Str.ofString "words", .obj (.d g.kW))]
structure Hp (g : G) (m : M) (σ : St) : Prop where
  src : ∃ x y, σ.H (.l g.s) = some (.lst [.int x, .int y])
  ports : σ.H (.d g.kP) = some (.di (m.ps.map fun p => (p, .obj (.i (m.pl p)))))
  port : ∀ p ∈ m.ps, σ.H (.i (m.pl p)) = some (portV g p (m.ax p) (m.up p) (m.aw p) (m.af p) (m.nl p))
  nbr : ∀ p ∈ m.ps, σ.H (.d (m.nl p)) = some (.dn ((m.nb p).map nbrE))
  scene : σ.H (.d g.kS) = some (.ds (sceneE g (m.own.map rowV)))
  words : σ.H (.d g.kW) = some (.di (m.ps.map fun p => (p, .bytes (m.wx p).toArray)))
  clocks : σ.H (.d g.kC) = some (.di (m.ord.map fun p => (p, .obj (.l (m.cl p)))))
  clock : ∀ p ∈ m.ord, σ.H (.l (m.cl p)) = some (.lst [.int (m.cw p), .int (m.cf p)])
  o1 : g.s < g.kP
  o2 : g.kP < g.kC
  o3 : g.kC < g.kW
  o4 : g.kW < g.kS
  o5 : g.kS < σ.n
  plt : ∀ p ∈ m.ps, m.pl p < σ.n
  pli : ∀ p ∈ m.ps, ∀ q ∈ m.ps, m.pl p = m.pl q → p = q
  nlt : ∀ p ∈ m.ps, g.kS < m.nl p ∧ m.nl p < σ.n
  nli : ∀ p ∈ m.ps, ∀ q ∈ m.ps, m.nl p = m.nl q → p = q
  clt : ∀ p ∈ m.ord, g.s < m.cl p ∧ m.cl p < σ.n
  cli : ∀ p ∈ m.ord, ∀ q ∈ m.ord, m.cl p = m.cl q → p = q
section
variable {g : G} {m : M} {σ σ' : St} {p : Int}
theorem Hp.ext (h : Hp g m σ) (e : Ext0 σ σ') : Hp g m σ' where
  src := by obtain ⟨x, y, h1⟩ := h.src; exact ⟨x, y, (e.2 _ (Nat.lt_trans h.o1 (Nat.lt_trans h.o2 (Nat.lt_trans h.o3 (Nat.lt_trans h.o4 h.o5))))).trans h1⟩
  ports := (e.2 _ (Nat.lt_trans h.o2 (Nat.lt_trans h.o3 (Nat.lt_trans h.o4 h.o5)))).trans h.ports
  port := fun p hp => (e.2 (.i (m.pl p)) (h.plt p hp)).trans (h.port p hp)
  nbr := fun p hp => (e.2 (.d (m.nl p)) (h.nlt p hp).2).trans (h.nbr p hp)
  scene := (e.2 (.d g.kS) h.o5).trans h.scene
  words := (e.2 _ (Nat.lt_trans h.o4 h.o5)).trans h.words
  clocks := (e.2 _ (Nat.lt_trans h.o3 (Nat.lt_trans h.o4 h.o5))).trans h.clocks
  clock := fun p hp => (e.2 (.l (m.cl p)) (h.clt p hp).2).trans (h.clock p hp)
  o1 := h.o1
  o2 := h.o2
  o3 := h.o3
  o4 := h.o4
  o5 := Nat.lt_of_lt_of_le h.o5 e.1
  plt := fun p hp => Nat.lt_of_lt_of_le (h.plt p hp) e.1
  pli := h.pli
  nlt := fun p hp => ⟨(h.nlt p hp).1, Nat.lt_of_lt_of_le (h.nlt p hp).2 e.1⟩
  nli := h.nli
  clt := fun p hp => ⟨(h.clt p hp).1, Nat.lt_of_lt_of_le (h.clt p hp).2 e.1⟩
  cli := h.cli
theorem Hp.congr (h : Hp g m σ) (e : ∀ q, σ'.H q = σ.H q) (n : σ'.n = σ.n) : Hp g m σ' := h.ext ⟨by lia, fun q _ => e q⟩
theorem Hp.draw (h : Hp g m σ) (x y : Int) : Hp g m (σ.set (.l g.s) (some (.lst [.int x, .int y]))) where
  src := ⟨x, y, set_eq⟩
  ports := (set_ne (by simp)).trans h.ports
  port := fun p hp => (set_ne (by simp)).trans (h.port p hp)
  nbr := fun p hp => (set_ne (by simp)).trans (h.nbr p hp)
  scene := (set_ne (by simp)).trans h.scene
  words := (set_ne (by simp)).trans h.words
  clocks := (set_ne (by simp)).trans h.clocks
  clock := fun p hp => (set_ne (lne (by have := (h.clt p hp).1; lia))).trans (h.clock p hp)
  o1 := h.o1
  o2 := h.o2
  o3 := h.o3
  o4 := h.o4
  o5 := h.o5
  plt := h.plt
  pli := h.pli
  nlt := h.nlt
  nli := h.nli
  clt := h.clt
  cli := h.cli
/-- the model with one port's row of the agent changed -/
noncomputable def M.port (m : M) (p : Int) (x : List UInt8) (u : Bool) (w f : Int) : M := { m with ax := fu m.ax p x, up := fu m.up p u, aw := fu m.aw p w, af := fu m.af p f }
theorem Hp.setPort (h : Hp g m σ) (hp : p ∈ m.ps) (x : List UInt8) (u : Bool) (w f : Int) : Hp g (m.port p x u w f) (σ.set (.i (m.pl p)) (some (portV g p x u w f (m.nl p)))) where
  src := by obtain ⟨x, y, h1⟩ := h.src; exact ⟨x, y, (set_ne (by simp)).trans h1⟩
  ports := (set_ne (by simp)).trans h.ports
  port := fun q hq => by
    by_cases e : q = p
    · subst e; dsimp only [M.port]; rw [fu_same, fu_same, fu_same, fu_same, set_eq]
    · dsimp only [M.port]; rw [fu_ne e, fu_ne e, fu_ne e, fu_ne e, set_ne (ine fun e1 => e (h.pli q hq p hp e1))]; exact h.port q hq
  nbr := fun p hp => (set_ne (by simp)).trans (h.nbr p hp)
  scene := (set_ne (by simp)).trans h.scene
  words := (set_ne (by simp)).trans h.words
  clocks := (set_ne (by simp)).trans h.clocks
  clock := fun p hp => (set_ne (by simp)).trans (h.clock p hp)
  o1 := h.o1
  o2 := h.o2
  o3 := h.o3
  o4 := h.o4
  o5 := h.o5
  plt := h.plt
  pli := h.pli
  nlt := h.nlt
  nli := h.nli
  clt := h.clt
  cli := h.cli
theorem Hp.setNb (h : Hp g m σ) (hp : p ∈ m.ps) (l : List R) : Hp g { m with nb := fu m.nb p l } (σ.set (.d (m.nl p)) (some (.dn (l.map nbrE)))) where
  src := by obtain ⟨x, y, h1⟩ := h.src; exact ⟨x, y, (set_ne (by simp)).trans h1⟩
  ports := (set_ne (dne (by have := (h.nlt p hp).1; have := h.o2; have := h.o3; have := h.o4; lia))).trans h.ports
  port := fun q hq => (set_ne (by simp)).trans (h.port q hq)
  nbr := fun q hq => by
    by_cases e : q = p
    · subst e; dsimp only; rw [fu_same, set_eq]
    · dsimp only; rw [fu_ne e, set_ne (dne fun e1 => e (h.nli q hq p hp e1))]; exact h.nbr q hq
  scene := (set_ne (dne (by have := (h.nlt p hp).1; lia))).trans h.scene
  words := (set_ne (dne (by have := (h.nlt p hp).1; have := h.o4; lia))).trans h.words
  clocks := (set_ne (dne (by have := (h.nlt p hp).1; have := h.o3; have := h.o4; lia))).trans h.clocks
  clock := fun p hp => (set_ne (by simp)).trans (h.clock p hp)
  o1 := h.o1
  o2 := h.o2
  o3 := h.o3
  o4 := h.o4
  o5 := h.o5
  plt := h.plt
  pli := h.pli
  nlt := h.nlt
  nli := h.nli
  clt := h.clt
  cli := h.cli
theorem Hp.newNb (h : Hp g m σ) (hp : p ∈ m.ps) (x : List UInt8) (u : Bool) (w f : Int) : Hp g { m.port p x u w f with nl := fu m.nl p σ.n, nb := fu m.nb p [] } ((σ.new (.d σ.n) (.dn [])).set (.i (m.pl p)) (some (portV g p x u w f σ.n))) where
  src := by obtain ⟨x, y, h1⟩ := h.src; exact ⟨x, y, (set_ne (by simp)).trans ((new_ne (by simp)).trans h1)⟩
  ports := (set_ne (by simp)).trans ((new_ne (dne (by have := h.o2; have := h.o3; have := h.o4; have := h.o5; lia))).trans h.ports)
  port := fun q hq => by
    by_cases e : q = p
    · subst e; dsimp only [M.port]; rw [fu_same, fu_same, fu_same, fu_same, fu_same, set_eq]
    · dsimp only [M.port]; rw [fu_ne e, fu_ne e, fu_ne e, fu_ne e, fu_ne e, set_ne (ine fun e1 => e (h.pli q hq p hp e1)), new_ne (by simp)]; exact h.port q hq
  nbr := fun q hq => by
    by_cases e : q = p
    · subst e; dsimp only [M.port]; rw [fu_same, fu_same, set_ne (by simp), new_eq]; rfl
    · dsimp only [M.port]; rw [fu_ne e, fu_ne e, set_ne (by simp), new_ne (dne (by have := (h.nlt q hq).2; lia))]; exact h.nbr q hq
  scene := (set_ne (by simp)).trans ((new_ne (dne (by have := h.o5; lia))).trans h.scene)
  words := (set_ne (by simp)).trans ((new_ne (dne (by have := h.o4; have := h.o5; lia))).trans h.words)
  clocks := (set_ne (by simp)).trans ((new_ne (dne (by have := h.o3; have := h.o4; have := h.o5; lia))).trans h.clocks)
  clock := fun p hp => (set_ne (by simp)).trans ((new_ne (by simp)).trans (h.clock p hp))
  o1 := h.o1
  o2 := h.o2
  o3 := h.o3
  o4 := h.o4
  o5 := Nat.lt_succ_of_lt h.o5
  plt := fun p hp => Nat.lt_succ_of_lt (h.plt p hp)
  pli := h.pli
  nlt := fun q hq => by
    dsimp only [M.port]
    by_cases e : q = p
    · subst e; rw [fu_same]; exact ⟨h.o5, Nat.lt_succ_self _⟩
    · rw [fu_ne e]; exact ⟨(h.nlt q hq).1, Nat.lt_succ_of_lt (h.nlt q hq).2⟩
  nli := fun q hq r hr e => by
    dsimp only [M.port] at e hq hr
    have hq1 := (h.nlt q hq).2
    have hr1 := (h.nlt r hr).2
    by_cases e1 : q = p
    · by_cases e2 : r = p
      · rw [e1, e2]
      · subst e1; rw [fu_same, fu_ne e2] at e; lia
    · by_cases e2 : r = p
      · subst e2; rw [fu_same, fu_ne e1] at e; lia
      · rw [fu_ne e1, fu_ne e2] at e; exact h.nli q hq r hr e
  clt := fun p hp => ⟨(h.clt p hp).1, Nat.lt_succ_of_lt (h.clt p hp).2⟩
  cli := h.cli
theorem Hp.setOwn (h : Hp g m σ) (l : List R) : Hp g { m with own := l } (σ.set (.d g.kS) (some (.ds (sceneE g (l.map rowV))))) where
  src := by obtain ⟨x, y, h1⟩ := h.src; exact ⟨x, y, (set_ne (by simp)).trans h1⟩
  ports := (set_ne (dne (by have := h.o2; have := h.o3; have := h.o4; lia))).trans h.ports
  port := fun q hq => (set_ne (by simp)).trans (h.port q hq)
  nbr := fun q hq => (set_ne (dne (by dsimp only; have := (h.nlt q hq).1; lia))).trans (h.nbr q hq)
  scene := set_eq
  words := (set_ne (dne (by have := h.o4; lia))).trans h.words
  clocks := (set_ne (dne (by have := h.o3; have := h.o4; lia))).trans h.clocks
  clock := fun p hp => (set_ne (by simp)).trans (h.clock p hp)
  o1 := h.o1
  o2 := h.o2
  o3 := h.o3
  o4 := h.o4
  o5 := h.o5
  plt := h.plt
  pli := h.pli
  nlt := h.nlt
  nli := h.nli
  clt := h.clt
  cli := h.cli
theorem Hp.setWord (h : Hp g m σ) (x : List UInt8) : Hp g { m with wx := fu m.wx p x } (σ.set (.d g.kW) (some (.di (m.ps.map fun q => (q, .bytes (fu m.wx p x q).toArray))))) where
  src := by obtain ⟨x, y, h1⟩ := h.src; exact ⟨x, y, (set_ne (by simp)).trans h1⟩
  ports := (set_ne (dne (by have := h.o2; have := h.o3; lia))).trans h.ports
  port := fun q hq => (set_ne (by simp)).trans (h.port q hq)
  nbr := fun q hq => (set_ne (dne (by dsimp only; have := (h.nlt q hq).1; have := h.o4; lia))).trans (h.nbr q hq)
  scene := (set_ne (dne (by have := h.o4; lia))).trans h.scene
  words := set_eq
  clocks := (set_ne (dne (by have := h.o3; lia))).trans h.clocks
  clock := fun p hp => (set_ne (by simp)).trans (h.clock p hp)
  o1 := h.o1
  o2 := h.o2
  o3 := h.o3
  o4 := h.o4
  o5 := h.o5
  plt := h.plt
  pli := h.pli
  nlt := h.nlt
  nli := h.nli
  clt := h.clt
  cli := h.cli
theorem Hp.setClocks (h : Hp g m σ) (l : List Int) (hl : ∀ q ∈ l, q ∈ m.ord) : Hp g { m with ord := l } (σ.set (.d g.kC) (some (.di (l.map fun p => (p, .obj (.l (m.cl p))))))) where
  src := by obtain ⟨x, y, h1⟩ := h.src; exact ⟨x, y, (set_ne (by simp)).trans h1⟩
  ports := (set_ne (dne (by have := h.o2; lia))).trans h.ports
  port := fun q hq => (set_ne (by simp)).trans (h.port q hq)
  nbr := fun q hq => (set_ne (dne (by dsimp only; have := (h.nlt q hq).1; have := h.o3; have := h.o4; lia))).trans (h.nbr q hq)
  scene := (set_ne (dne (by have := h.o3; have := h.o4; lia))).trans h.scene
  words := (set_ne (dne (by have := h.o3; lia))).trans h.words
  clocks := set_eq
  clock := fun p hp => (set_ne (by simp)).trans (h.clock p (hl p hp))
  o1 := h.o1
  o2 := h.o2
  o3 := h.o3
  o4 := h.o4
  o5 := h.o5
  plt := h.plt
  pli := h.pli
  nlt := h.nlt
  nli := h.nli
  clt := fun p hp => h.clt p (hl p hp)
  cli := fun p hp q hq => h.cli p (hl p hp) q (hl q hq)
theorem Hp.setClock (h : Hp g m σ) (hp : p ∈ m.ord) (w f : Int) : Hp g { m with cw := fu m.cw p w, cf := fu m.cf p f } (σ.set (.l (m.cl p)) (some (.lst [.int w, .int f]))) where
  src := by obtain ⟨x, y, h1⟩ := h.src; exact ⟨x, y, (set_ne (lne (by have := (h.clt p hp).1; lia))).trans h1⟩
  ports := (set_ne (by simp)).trans h.ports
  port := fun q hq => (set_ne (by simp)).trans (h.port q hq)
  nbr := fun q hq => (set_ne (by simp)).trans (h.nbr q hq)
  scene := (set_ne (by simp)).trans h.scene
  words := (set_ne (by simp)).trans h.words
  clocks := (set_ne (by simp)).trans h.clocks
  clock := fun q hq => by
    by_cases e : q = p
    · subst e; dsimp only; rw [fu_same, fu_same, set_eq]
    · dsimp only; rw [fu_ne e, fu_ne e, set_ne (lne fun e1 => e (h.cli q hq p hp e1))]; exact h.clock q hq
  o1 := h.o1
  o2 := h.o2
  o3 := h.o3
  o4 := h.o4
  o5 := h.o5
  plt := h.plt
  pli := h.pli
  nlt := h.nlt
  nli := h.nli
  clt := h.clt
  cli := h.cli
/-- a fresh clock for port p -/
theorem Hp.newClock (h : Hp g m σ) (l : List Int) (hl : ∀ q ∈ l, q = p ∨ q ∈ m.ord) (w f : Int) : Hp g { m with ord := l, cl := fu m.cl p σ.n, cw := fu m.cw p w, cf := fu m.cf p f } ((σ.new (.l σ.n) (.lst [.int w, .int f])).set (.d g.kC) (some (.di (l.map fun q => (q, .obj (.l (fu m.cl p σ.n q))))))) where
  src := by obtain ⟨x, y, h1⟩ := h.src; exact ⟨x, y, (set_ne (by simp)).trans ((new_ne (lne (by have := h.o1; have := h.o2; have := h.o3; have := h.o4; have := h.o5; lia))).trans h1)⟩
  ports := (set_ne (dne (by have := h.o2; lia))).trans ((new_ne (by simp)).trans h.ports)
  port := fun q hq => (set_ne (by simp)).trans ((new_ne (by simp)).trans (h.port q hq))
  nbr := fun q hq => (set_ne (dne (by dsimp only; have := (h.nlt q hq).1; have := h.o3; have := h.o4; lia))).trans ((new_ne (by simp)).trans (h.nbr q hq))
  scene := (set_ne (dne (by have := h.o3; have := h.o4; lia))).trans ((new_ne (by simp)).trans h.scene)
  words := (set_ne (dne (by have := h.o3; lia))).trans ((new_ne (by simp)).trans h.words)
  clocks := set_eq
  clock := fun q hq => by
    dsimp only at hq ⊢
    by_cases e : q = p
    · subst e; rw [fu_same, fu_same, fu_same, set_ne (by simp), new_eq]
    · have hq' := (hl q hq).resolve_left e
      rw [fu_ne e, fu_ne e, fu_ne e, set_ne (by simp), new_ne (lne (by have := (h.clt q hq').2; lia))]; exact h.clock q hq'
  o1 := h.o1
  o2 := h.o2
  o3 := h.o3
  o4 := h.o4
  o5 := Nat.lt_succ_of_lt h.o5
  plt := fun p hp => Nat.lt_succ_of_lt (h.plt p hp)
  pli := h.pli
  nlt := fun p hp => ⟨(h.nlt p hp).1, Nat.lt_succ_of_lt (h.nlt p hp).2⟩
  nli := h.nli
  clt := fun q hq => by
    dsimp only at hq ⊢
    by_cases e : q = p
    · subst e; rw [fu_same]; exact ⟨by have := h.o1; have := h.o2; have := h.o3; have := h.o4; have := h.o5; lia, Nat.lt_succ_self _⟩
    · have hq' := (hl q hq).resolve_left e
      rw [fu_ne e]; exact ⟨(h.clt q hq').1, Nat.lt_succ_of_lt (h.clt q hq').2⟩
  cli := fun q hq r hr e => by
    dsimp only at e hq hr
    by_cases e1 : q = p
    · by_cases e2 : r = p
      · rw [e1, e2]
      · have := (h.clt r ((hl r hr).resolve_left e2)).2
        subst e1; rw [fu_same, fu_ne e2] at e; lia
    · have := (h.clt q ((hl q hq).resolve_left e1)).2
      by_cases e2 : r = p
      · subst e2; rw [fu_same, fu_ne e1] at e; lia
      · rw [fu_ne e1, fu_ne e2] at e; exact h.cli q ((hl q hq).resolve_left e1) r ((hl r hr).resolve_left e2) e
/-- a new port -/
theorem Hp.newPort (h : Hp g m σ) {σ' : St} {l k : Nat} {x : List UInt8} {u : Bool} {w f : Int} (hn : p ∉ m.ps) (hl : σ.n ≤ l ∧ l < σ'.n) (hk : σ.n ≤ k ∧ k < σ'.n) (hσ : ∀ q : Loc, q.idx < σ.n → q ≠ .d g.kP → q ≠ .d g.kW → σ'.H q = σ.H q)
    (hp : σ'.H (.i k) = some (portV g p x u w f l)) (hnb : σ'.H (.d l) = some (.dn [])) (hps : σ'.H (.d g.kP) = some (.di ((m.ps ++ [p]).map fun q => (q, .obj (.i (fu m.pl p k q)))))) (hw : σ'.H (.d g.kW) = some (.di ((m.ps ++ [p]).map fun q => (q, .bytes (fu m.wx p x q).toArray)))) :
    Hp g { m.port p x u w f with ps := m.ps ++ [p], pl := fu m.pl p k, nl := fu m.nl p l, nb := fu m.nb p [], wx := fu m.wx p x } σ' where
  src := by obtain ⟨x, y, h1⟩ := h.src; exact ⟨x, y, (hσ _ (by have := h.o1; have := h.o2; have := h.o3; have := h.o4; have := h.o5; show g.s < _; lia) (by simp) (by simp)).trans h1⟩
  ports := hps
  port := fun q hq => by
    dsimp only [M.port] at hq ⊢
    by_cases e : q = p
    · subst e; rw [fu_same, fu_same, fu_same, fu_same, fu_same, fu_same]; exact hp
    · have hq' : q ∈ m.ps := by simpa [e] using hq
      rw [fu_ne e, fu_ne e, fu_ne e, fu_ne e, fu_ne e, fu_ne e]; exact (hσ (.i (m.pl q)) (h.plt q hq') (by simp) (by simp)).trans (h.port q hq')
  nbr := fun q hq => by
    dsimp only [M.port] at hq ⊢
    by_cases e : q = p
    · subst e; rw [fu_same, fu_same]; exact hnb
    · have hq' : q ∈ m.ps := by simpa [e] using hq
      rw [fu_ne e, fu_ne e]; exact (hσ (.d (m.nl q)) (h.nlt q hq').2 (dne (by have := (h.nlt q hq').1; have := h.o2; have := h.o3; have := h.o4; lia)) (dne (by have := (h.nlt q hq').1; have := h.o4; lia))).trans (h.nbr q hq')
  scene := (hσ (.d g.kS) h.o5 (dne (by have := h.o2; have := h.o3; have := h.o4; lia)) (dne (by have := h.o4; lia))).trans h.scene
  words := hw
  clocks := (hσ _ (by have := h.o3; have := h.o4; have := h.o5; show g.kC < _; lia) (dne (by have := h.o2; lia)) (dne (by have := h.o3; lia))).trans h.clocks
  clock := fun q hq => (hσ (.l (m.cl q)) (h.clt q hq).2 (by simp) (by simp)).trans (h.clock q hq)
  o1 := h.o1
  o2 := h.o2
  o3 := h.o3
  o4 := h.o4
  o5 := by have := h.o5; lia
  plt := fun q hq => by
    dsimp only [M.port] at hq ⊢
    by_cases e : q = p
    · subst e; rw [fu_same]; exact hk.2
    · have hq' : q ∈ m.ps := by simpa [e] using hq
      rw [fu_ne e]; have := h.plt q hq'; lia
  pli := fun q hq r hr e => by
    dsimp only [M.port] at e hq hr
    by_cases e1 : q = p
    · by_cases e2 : r = p
      · rw [e1, e2]
      · have hr' : r ∈ m.ps := by simpa [e2] using hr
        have := h.plt r hr'
        subst e1; rw [fu_same, fu_ne e2] at e; lia
    · have hq' : q ∈ m.ps := by simpa [e1] using hq
      have := h.plt q hq'
      by_cases e2 : r = p
      · subst e2; rw [fu_same, fu_ne e1] at e; lia
      · have hr' : r ∈ m.ps := by simpa [e2] using hr
        rw [fu_ne e1, fu_ne e2] at e; exact h.pli q hq' r hr' e
  nlt := fun q hq => by
    dsimp only [M.port] at hq ⊢
    have := h.o5
    by_cases e : q = p
    · subst e; rw [fu_same]; exact ⟨by lia, hl.2⟩
    · have hq' : q ∈ m.ps := by simpa [e] using hq
      rw [fu_ne e]; have := h.nlt q hq'; lia
  nli := fun q hq r hr e => by
    dsimp only [M.port] at e hq hr
    by_cases e1 : q = p
    · by_cases e2 : r = p
      · rw [e1, e2]
      · have hr' : r ∈ m.ps := by simpa [e2] using hr
        have := (h.nlt r hr').2
        subst e1; rw [fu_same, fu_ne e2] at e; lia
    · have hq' : q ∈ m.ps := by simpa [e1] using hq
      have := (h.nlt q hq').2
      by_cases e2 : r = p
      · subst e2; rw [fu_same, fu_ne e1] at e; lia
      · have hr' : r ∈ m.ps := by simpa [e2] using hr
        rw [fu_ne e1, fu_ne e2] at e; exact h.nli q hq' r hr' e
  clt := fun q hq => by have := h.clt q hq; exact ⟨this.1, by dsimp only [M.port]; lia⟩
  cli := h.cli
end

section
variable {n : Nat} {σ : St} {g : G} {m : M} {Q : PV × St → Prop}
theorem take_raw {s : Nat} {x y top : Int} (hs : σ.H (.l s) = some (.lst [.int x, .int y])) (h1 : 1 ≤ top) (h2 : top ≤ 1000) (hQ : ∀ d x y, 0 ≤ d → d < top → Q (.int d, σ.set (.l s) (some (.lst [.int x, .int y])))) : W (callF tbl (n + 12) F_law_take [.obj (.l s), .int top] σ) Q := by
  have t0 : top ≠ 0 := by lia
  have t1 : top.natAbs < 1073741824 := by lia
  have t5 : ∀ z : Int, (z.fmod 2147483647).natAbs < 18446744073709551616 := by
    intro z
    rw [Int.fmod_eq_emod_of_nonneg _ (by decide)]
    lia
  refine rC rfl ?_
  refine qI' ?_; refine tC ?_; refine rSub ?_; refine rP rfl ?_; refine rP rfl ?_; refine ⟨_, subL0 (by assumption), ?_⟩; refine rP rfl ?_; refine ⟨_, rfl, ?_⟩
  refine ⟨fun e => ?_, fun _ => q0 ?_⟩
  · have hx : 0 < x := of_decide_eq_true e
    refine qA rfl rfl ?_; refine rBin ?_; refine rBi rfl rfl ?_; refine sC ?_; refine rSub ?_; refine rP rfl ?_; refine rP rfl ?_; refine ⟨_, subL0 (by assumption), ?_⟩; refine sP rfl ?_; refine ⟨Nat.le_of_ble_eq_true rfl, ?_⟩; refine ⟨_, rfl, ?_⟩; refine rP rfl ?_
    refine ⟨_, bMod t0, ?_⟩
    refine qAS rfl ?_; refine rBin ?_; refine rSub ?_; refine rP rfl ?_; refine rP rfl ?_; refine ⟨_, subL0 (by assumption), ?_⟩; refine rP rfl ?_
    refine ⟨_, bDiv t0 t1, ?_⟩
    refine rP rfl ?_; refine rP rfl ?_; refine ⟨_, stoL0 (by assumption), ?_⟩; refine qRP rfl ?_
    exact hQ _ _ _ (Int.fmod_nonneg (by lia) (by lia)) (Int.fmod_lt_of_pos _ (by lia))
  · refine qAS rfl ?_; refine rBin ?_; refine rBi rfl rfl ?_; refine sC ?_; refine rBin ?_; refine rBin ?_; refine rSub ?_; refine rP rfl ?_; refine rP rfl ?_; refine ⟨_, subL1 (by assumption), ?_⟩; refine rP rfl ?_
    refine ⟨_, bMul (by decide), ?_⟩
    refine rP rfl ?_; refine ⟨_, rfl, ?_⟩; refine sP rfl ?_; refine ⟨Nat.le_of_ble_eq_true rfl, ?_⟩; refine ⟨_, rfl, ?_⟩; refine rP rfl ?_; refine ⟨_, rfl, ?_⟩; refine rP rfl ?_; refine rP rfl ?_; refine ⟨_, stoL1 (by assumption), ?_⟩; refine qR ?_; refine rBin ?_; refine rBi rfl rfl ?_; refine sC ?_; refine rBin ?_; refine rBin ?_; refine rBi rfl rfl ?_; refine sC ?_; refine rBin ?_; refine rSub ?_; refine rP rfl ?_; refine rP rfl ?_; refine ⟨_, subL1 set_eq, ?_⟩; refine rSub ?_; refine rP rfl ?_; refine rP rfl ?_; refine ⟨_, subL1 set_eq, ?_⟩
    refine ⟨_, bMul (t5 _), ?_⟩
    refine sP rfl ?_; refine ⟨Nat.le_of_ble_eq_true rfl, ?_⟩; refine ⟨_, rfl, ?_⟩; refine rP rfl ?_; refine ⟨_, rfl, ?_⟩; refine rP rfl ?_; refine ⟨_, rfl, ?_⟩; refine sP rfl ?_; refine ⟨Nat.le_of_ble_eq_true rfl, ?_⟩; refine ⟨_, rfl, ?_⟩; refine rP rfl ?_
    refine ⟨_, bMod t0, ?_⟩
    refine hQ _ _ _ ?_ (Int.fmod_lt_of_pos _ (by lia))
    rw [Int.fmod_eq_emod_of_nonneg _ (by lia)]; exact Int.emod_nonneg _ (by lia)
theorem take_ok {top : Int} (h : Hp g m σ) (h1 : 1 ≤ top) (h2 : top ≤ 1000) (hQ : ∀ d σ', 0 ≤ d → d < top → Hp g m σ' → Q (.int d, σ')) : W (callF tbl (n + 12) F_law_take [.obj (.l g.s), .int top] σ) Q :=
  let ⟨_, _, hs⟩ := h.src; take_raw hs h1 h2 fun d _ _ a b => hQ d _ a b (h.draw _ _)
end

section
variable {K : Type} [DecidableEq K]
theorem vat_map {f : Int → PV} {l : List Int} {p : Int} (h : p ∈ l) : vat (l.map fun q => (q, f q)) p = some (f p) := by
  induction l with
  | nil => cases h
  | cons a l ih =>
    unfold vat at *
    rw [List.map_cons, List.find?_cons]
    by_cases e : a = p
    · subst e; simp
    · have : p ∈ l := by simpa [Ne.symm e] using h
      simp only [e, decide_false]
      exact ih this
theorem vat_map_none {f : Int → PV} {l : List Int} {p : Int} (h : p ∉ l) : vat (l.map fun q => (q, f q)) p = none := by
  unfold vat
  rw [List.find?_eq_none.mpr]
  · rfl
  · intro x hx
    obtain ⟨q, hq, rfl⟩ := List.mem_map.mp hx
    simp only [decide_eq_true_eq]
    intro e; subst e; exact h hq
end
section
variable {σ : St} {r : Loc} {C : Str} {ks : List Str} {vs : List PV} {x : Str} {q : PV}
theorem attrO (h : σ.H r = some (.inst C ks vs)) : attrv tbl σ (.obj r) x = attrv tbl σ (.inst C ks vs) x := by
  show (σ.H r).bind _ = _; rw [h]; rfl
theorem sattO (h : σ.H r = some (.inst C ks vs)) (h1 : decide (ks.length = vs.length ∧ ks.length < 100 ∧ tbl.plain C x = true) = true) : setAttrv tbl σ (.obj r) x q = some (σ.set r (some (.inst C (setAt ks vs x q).1 (setAt ks vs x q).2))) := by
  show (σ.H r).bind _ = _; rw [h]; exact if_pos (of_decide_eq_true h1)
variable {g : G} {p : Int} {t t' : List UInt8} {u u' : Bool} {w w' f f' : Int} {l l' : Nat}
theorem sRows (h : σ.H r = some (portV g p t u w f l)) : setAttrv tbl σ (.obj r) (Str.ofString "rows") (.lst (wordsL (ch48 p) t' (held g))) = some (σ.set r (some (portV g p t' u w f l))) := sattO h rfl
theorem sUp (h : σ.H r = some (portV g p t u w f l)) : setAttrv tbl σ (.obj r) (Str.ofString "is_up") (.bool u') = some (σ.set r (some (portV g p t u' w f l))) := sattO h rfl
theorem sWait (h : σ.H r = some (portV g p t u w f l)) : setAttrv tbl σ (.obj r) (Str.ofString "wait") (.int w') = some (σ.set r (some (portV g p t u w' f l))) := sattO h rfl
theorem sFast (h : σ.H r = some (portV g p t u w f l)) : setAttrv tbl σ (.obj r) (Str.ofString "fast") (.int f') = some (σ.set r (some (portV g p t u w f' l))) := sattO h rfl
theorem sNbr (h : σ.H r = some (portV g p t u w f l)) : setAttrv tbl σ (.obj r) (Str.ofString "neighbours") (.obj (.d l')) = some (σ.set r (some (portV g p t u w f l'))) := sattO h rfl
end
theorem Sub.set {k : Str} {v : PV} {ls : Ls} (h : getV k ls = none) : Sub ls (setL k v ls) := fun x p e => by
  rw [getV_setL]
  by_cases c : x = k
  · subst c; rw [h] at e; cases e
  · rw [if_neg c]; exact e

section
variable {σ σ' : St} {l q : Loc} {a b : Option AO}
theorem ss_H : ((σ.set l a).set l b).H q = (σ.set l b).H q := by
  show (if _ then _ else if _ then _ else _) = if _ then _ else _
  split <;> rfl
end
section
variable {n : Nat} {σ : St} {g : G} {m : M} {p : Int} {Q : PV × St → Prop}
theorem hurry_eq {k l : Nat} {x : List UInt8} {u : Bool} {w f : Int} (h : σ.H (.i k) = some (portV g p x u w f l)) : callF tbl (n + 10) M_LldpPort_hurry [.obj (.i k), timesG g] σ (.none, (σ.set (.i k) (some (portV g p x u 0 f l))).set (.i k) (some (portV g p x u 0 g.c l))) := by
  refine W_eq (rC rfl ?_)
  refine qAA rfl ?_; refine rP rfl ?_; refine rP rfl ?_; refine ⟨_, sWait (by assumption), ?_⟩; refine qAA rfl ?_; refine rP rfl ?_; refine rP rfl ?_; refine ⟨_, sFast set_eq, ?_⟩; refine q0 ?_
  rfl
theorem go_on_eq {k l : Nat} {x : List UInt8} {u : Bool} {w f : Int} (hf : 0 ≤ f) (h : σ.H (.i k) = some (portV g p x u w f l)) : ∃ σ', callF tbl (n + 10) M_LldpPort_go_on [.obj (.i k), timesG g] σ (.none, σ') ∧ σ'.n = σ.n ∧ ∀ q, σ'.H q = (σ.set (.i k) (some (portV g p x u ((if 0 < max 0 (f - 1) then 1 else g.a) - 1) (max 0 (f - 1)) l))).H q := by
  suffices hs : W (callF tbl (n + 10) M_LldpPort_go_on [.obj (.i k), timesG g] σ) fun r => r.1 = .none ∧ r.2.n = σ.n ∧ ∀ q, r.2.H q = (σ.set (.i k) (some (portV g p x u ((if 0 < max 0 (f - 1) then 1 else g.a) - 1) (max 0 (f - 1)) l))).H q by
    obtain ⟨⟨a, b⟩, e, h1, h2⟩ := hs
    dsimp only at h1; subst h1
    exact ⟨b, e, h2⟩
  refine rC rfl ?_
  refine qI' ?_; refine tC ?_; refine rAttr rfl ?_; refine rP rfl ?_; refine ⟨_, (attrO (by assumption)).trans rfl, ?_⟩; refine rP rfl ?_; refine ⟨_, rfl, ?_⟩
  refine ⟨fun e => ?_, fun e => q0 ?_⟩
  · have h0 : 0 < f := of_decide_eq_true e
    have e1 : max 0 (f - 1) = f - 1 := by lia
    rw [e1]
    refine qAA rfl ?_; refine rBin ?_; refine rAttr rfl ?_; refine rP rfl ?_; refine ⟨_, (attrO (by assumption)).trans rfl, ?_⟩; refine rP rfl ?_; refine ⟨_, rfl, ?_⟩; refine rP rfl ?_; refine ⟨_, sFast (by assumption), ?_⟩; refine q0 ?_; refine qAA rfl ?_; refine rBin ?_; refine rIf' ?_; refine tC ?_; refine rAttr rfl ?_; refine rP rfl ?_; refine ⟨_, (attrO set_eq).trans rfl, ?_⟩; refine rP rfl ?_; refine ⟨_, rfl, ?_⟩
    refine ⟨fun e => ?_, fun e => ?_⟩
    · have h1 : 0 < f - 1 := of_decide_eq_true e
      refine rP rfl ?_; refine rP rfl ?_; refine ⟨_, rfl, ?_⟩; refine rP rfl ?_; refine ⟨_, sWait set_eq, ?_⟩; refine q0 ?_; refine ⟨rfl, ?_⟩; refine ⟨rfl, ?_⟩
      rw [if_pos h1]; exact fun q => ss_H
    · have h1 : ¬ 0 < f - 1 := of_decide_eq_false e
      refine rP rfl ?_; refine rP rfl ?_; refine ⟨_, rfl, ?_⟩; refine rP rfl ?_; refine ⟨_, sWait set_eq, ?_⟩; refine q0 ?_; refine ⟨rfl, ?_⟩; refine ⟨rfl, ?_⟩
      rw [if_neg h1]; exact fun q => ss_H
  · have h0 : ¬ 0 < f := of_decide_eq_false e
    have e1 : f = 0 := by lia
    subst e1
    refine qAA rfl ?_; refine rBin ?_; refine rIf' ?_; refine tC ?_; refine rAttr rfl ?_; refine rP rfl ?_; refine ⟨_, (attrO (by assumption)).trans rfl, ?_⟩; refine rP rfl ?_; refine ⟨_, rfl, ?_⟩; refine ⟨fun e => bFT e, fun _ => ?_⟩; refine rP rfl ?_; refine rP rfl ?_; refine ⟨_, rfl, ?_⟩; refine rP rfl ?_; refine ⟨_, sWait (by assumption), ?_⟩; refine q0 ?_; refine ⟨rfl, ?_⟩; refine ⟨rfl, ?_⟩
    exact fun q => rfl
/-- what the agent's own functions need to know of the heap -/
structure Ag (g : G) (H : M → St → Prop) : Prop where
  ports : ∀ {m σ}, H m σ → σ.H (.d g.kP) = some (.di (m.ps.map fun p => (p, .obj (.i (m.pl p)))))
  port : ∀ {m σ}, H m σ → ∀ p ∈ m.ps, σ.H (.i (m.pl p)) = some (portV g p (m.ax p) (m.up p) (m.aw p) (m.af p) (m.nl p))
  nbr : ∀ {m σ}, H m σ → ∀ p ∈ m.ps, σ.H (.d (m.nl p)) = some (.dn ((m.nb p).map nbrE))
  ext : ∀ {m σ σ'}, H m σ → Ext0 σ σ' → H m σ'
  setPort : ∀ {m σ p}, H m σ → p ∈ m.ps → ∀ x u w f, H (m.port p x u w f) (σ.set (.i (m.pl p)) (some (portV g p x u w f (m.nl p))))
  setNb : ∀ {m σ p}, H m σ → p ∈ m.ps → ∀ l : List R, H { m with nb := fu m.nb p l } (σ.set (.d (m.nl p)) (some (.dn (l.map nbrE))))
theorem agHp : Ag g (Hp g) := ⟨Hp.ports, Hp.port, Hp.nbr, Hp.ext, Hp.setPort, Hp.setNb⟩
variable {H : M → St → Prop}
theorem Ag.congr (A : Ag g H) {σ' : St} (h : H m σ) (e : ∀ q, σ'.H q = σ.H q) (n : σ'.n = σ.n) : H m σ' := A.ext h ⟨by lia, fun q _ => e q⟩
theorem link_up_ok (A : Ag g H) (h : H m σ) (hp : p ∈ m.ps) (hQ : ∀ σ', H (m.port p (m.ax p) true 0 g.c) σ' → Q (.none, σ')) : W (callF tbl (n + 16) M_LldpAgent_link_up [agentV g, .int p] σ) Q := by
  have h1 := A.ports h
  have h2 := A.port h p hp
  have h3 := vat_map (f := fun q => .obj (.i (m.pl q))) hp
  have h5 := A.setPort h hp (m.ax p) true 0 g.c
  refine rC rfl ?_
  refine qAA rfl ?_; refine rP rfl ?_; refine rSub ?_; refine rP rfl ?_; refine rP rfl ?_; refine ⟨_, subDi (by assumption) (by assumption), ?_⟩; refine ⟨_, sUp (by assumption), ?_⟩; refine qX rfl ?_; refine rMe rfl (by decide) rfl ?_; refine rSub ?_; refine rP rfl ?_; refine rP rfl ?_; refine ⟨_, subDi (by assumption) (by assumption), ?_⟩; refine ⟨_, MkR.obj set_eq rfl rfl, ?_⟩; refine sP rfl ?_
  refine W_of (hurry_eq set_eq) ?_
  refine q0 ?_
  exact hQ _ (A.congr h5 (fun q => ss_H.trans ss_H) rfl)
end
noncomputable def nameV (w : Int) : PV := nkPV (keyN w)
theorem in5 {w : Int} (h : 0 ≤ w ∧ w < 5) : ∃ i : Fin 5, w = (i.val : Int) := ⟨⟨w.toNat, by lia⟩, by simp; lia⟩
theorem keyN_inj {w v : Int} (h : 0 ≤ w ∧ w < 5) (h' : 0 ≤ v ∧ v < 5) : keyN w = keyN v ↔ w = v := by
  obtain ⟨i, rfl⟩ := in5 h
  obtain ⟨j, rfl⟩ := in5 h'
  have : ∀ i j : Fin 5, keyN (i.val : Int) = keyN (j.val : Int) ↔ (i.val : Int) = (j.val : Int) := by decide +kernel
  exact this i j
theorem nameV_lt {w v : Int} (h : 0 ≤ w ∧ w < 5) (h' : 0 ≤ v ∧ v < 5) (hn : w ≠ v) : pvlt (nameV w) (nameV v) = some (decide (w < v)) := by
  obtain ⟨i, rfl⟩ := in5 h
  obtain ⟨j, rfl⟩ := in5 h'
  have : ∀ i j : Fin 5, (i.val : Int) ≠ (j.val : Int) → pvlt (nameV (i.val : Int)) (nameV (j.val : Int)) = some (decide ((i.val : Int) < (j.val : Int))) := by decide +kernel
  exact this i j hn
/-- a port's neighbours: few, each once -/
structure OkN (l : List R) : Prop where
  len : l.length ≤ 3
  dis : l.Pairwise fun a b => a.who ≠ b.who
  rng : ∀ r ∈ l, 0 ≤ r.who ∧ r.who < 5
theorem sort_names {l : List R} (h : OkN l) : (if sortKind (l.map fun r => nameV r.who) then (sortL (l.map fun r => nameV r.who)).map PV.lst else none) = some (.lst ((srt R.who l).map fun r => nameV r.who)) := by
  have hk : sortKind (l.map fun r => nameV r.who) = true := by
    unfold sortKind
    rw [Bool.or_eq_true]
    refine .inr ?_
    rw [List.all_map, List.all_eq_true]
    intro r _
    rfl
  rw [if_pos hk, sortL_key (key := R.who) h.len h.dis fun a b ha hb hn => nameV_lt (h.rng a ha) (h.rng b hb) hn]
  rfl
theorem vat_n {l : List R} {w : Int} (h : ∀ r ∈ l, 0 ≤ r.who ∧ r.who < 5) (hw : 0 ≤ w ∧ w < 5) : vat (l.map nbrE) (keyN w) = (l.find? fun r => decide (r.who = w)).map nbrV := by
  induction l with
  | nil => rfl
  | cons r l ih =>
    have ih := ih fun r hr => h r (List.mem_cons_of_mem _ hr)
    unfold vat at *
    rw [List.map_cons, List.find?_cons, List.find?_cons]
    have hk : decide ((nbrE r).1 = keyN w) = decide (r.who = w) := decide_eq_decide.mpr (keyN_inj (h r (List.mem_cons_self ..)) hw)
    rw [hk]
    cases decide (r.who = w) with
    | true => rfl
    | false => exact ih
theorem wou_n {l : List R} {w : Int} (h : ∀ r ∈ l, 0 ≤ r.who ∧ r.who < 5) (hw : 0 ≤ w ∧ w < 5) : wou (l.map nbrE) (keyN w) = (l.filter fun r => decide (r.who ≠ w)).map nbrE := by
  unfold wou
  rw [List.filter_map]
  congr 1
  refine List.filter_congr fun r hr => ?_
  exact decide_eq_decide.mpr (not_congr (keyN_inj (h r hr) hw))
noncomputable def stoR (l : List R) (r : R) : List R := if (l.find? fun x => decide (x.who = r.who)).isSome then l.map (fun x => if x.who = r.who then r else x) else l ++ [r]
theorem sto_n {l : List R} {r : R} (h : ∀ r ∈ l, 0 ≤ r.who ∧ r.who < 5) (hw : 0 ≤ r.who ∧ r.who < 5) : sto (l.map nbrE) (keyN r.who) (nbrV r) = (stoR l r).map nbrE := by
  unfold sto stoR
  rw [vat_n h hw, Option.isSome_map]
  split
  · rw [List.map_map, List.map_map]
    refine List.map_congr_left fun x hx => ?_
    show (if keyN x.who = keyN r.who then (keyN x.who, nbrV r) else nbrE x) = nbrE (if x.who = r.who then r else x)
    by_cases e : x.who = r.who
    · rw [if_pos ((keyN_inj (h x hx) hw).mpr e), if_pos e, e]; rfl
    · rw [if_neg (fun e1 => e ((keyN_inj (h x hx) hw).mp e1)), if_neg e]
  · rw [List.map_append]; rfl
theorem flat_one {α : Type} (l : List α) (f : α → PV) : (l.flatMap fun x => [f x]) = l.map f := by
  induction l with
  | nil => rfl
  | cons a l ih => rw [List.flatMap_cons, ih]; rfl
theorem flat_filter {α : Type} (l : List α) (c : α → Bool) (f : α → PV) : (l.flatMap fun x => if c x then [f x] else []) = (l.filter c).map f := by
  induction l with
  | nil => rfl
  | cons a l ih =>
    rw [List.flatMap_cons, ih, List.filter_cons]
    cases c a <;> rfl
theorem peqs_words (c t c' t' : List UInt8) (s s' : Int) : peqs (wordsL c t s) (wordsL c' t' s') = some (decide (c = c' ∧ t = t' ∧ s = s')) := by
  show some ((decide (_ = _) && (decide (_ = _) && (decide (c.toArray = c'.toArray) && true))) && ((decide (_ = _) && (decide (_ = _) && (decide (_ = _) && true))) && ((decide (_ = _) && (decide (s = s') && true)) && ((decide (_ = _) && (decide (t.toArray = t'.toArray) && true)) && true)))) = _
  have h1 : ∀ x y : List UInt8, (x.toArray = y.toArray) = (x = y) := by intro x y; simp
  refine congrArg some ?_
  rw [Bool.eq_iff_iff]
  simp only [h1, Bool.and_true, Bool.and_eq_true, decide_eq_true_eq, true_and]
  exact ⟨fun ⟨a, b, c⟩ => ⟨a, c, b⟩, fun ⟨a, b, c⟩ => ⟨a, c, b⟩⟩
theorem deps_words (c t : List UInt8) (s : Int) : deps (wordsL c t s) = 1 := rfl

structure GOk (g : G) : Prop where
  a1 : 2 ≤ g.a
  a2 : g.a ≤ 30
  b1 : 1 ≤ g.b
  b2 : g.b ≤ 4
  c1 : 1 ≤ g.c
  c2 : g.c ≤ 4
  m1 : 1 ≤ g.most
  m2 : g.most ≤ 3
theorem GOk.held {g : G} (h : GOk g) : 0 ≤ held g ∧ held g ≤ 121 := by
  unfold Lm.held
  have h1 : 0 ≤ g.a * g.b := Int.mul_nonneg (by have := h.a1; lia) (by have := h.b1; lia)
  have h2 : g.a * g.b ≤ 30 * 4 := Int.mul_le_mul h.a2 h.b2 (by have := h.b1; lia) (by decide)
  lia
noncomputable def frameV (c : UInt8) (t : List UInt8) (s : Int) (mac : Int) : PV := .inst (Str.ofString "Frame") [Str.ofString "target", Str.ofString "source", Str.ofString "tags", Str.ofString "kind", Str.ofString "payload"] [.int 1652522221582, .int mac, .tup [], .int 35020, .bytes (pay c t s).toArray]
section
variable {n : Nat} {σ : St} {g : G} {m : M} {p : Int} {Q : PV × St → Prop}
theorem timesG_told (h : GOk g) : callF tbl (n + 10) M_LldpTimes_told_time [timesG g] σ (.int (held g), σ) := told_time_ok g.a g.b g.c (by have := h.a1; lia) (by have := h.a2; lia) (by have := h.held; unfold held at this; lia)
theorem soDn {r : Loc} {l : List R} (hn : OkN l) (h : σ.H r = some (.dn (l.map nbrE))) : sortv σ (.obj r) = some (.lst ((srt R.who l).map fun r => nameV r.who)) := by
  rw [soO h]
  show (if sortKind ((l.map nbrE).map fun e => nkPV e.1) then _ else _) = _
  rw [List.map_map]
  exact sort_names hn
theorem link_down_ok (h : Hp g m σ) (hp : p ∈ m.ps) (hn : OkN (m.nb p)) (hQ : ∀ σ' k, Hp g { m.port p (m.ax p) false (m.aw p) (m.af p) with nl := fu m.nl p k, nb := fu m.nb p [] } σ' → Q (.lst ((srt R.who (m.nb p)).map fun r => nameV r.who), σ')) : W (callF tbl (n + 16) M_LldpAgent_link_down [agentV g, .int p] σ) Q := by
  have h1 := h.ports
  have h2 := h.port p hp
  have h3 := vat_map (f := fun q => .obj (.i (m.pl q))) hp
  have h4 := h.nbr p hp
  have h7 := h.newNb hp (m.ax p) false (m.aw p) (m.af p)
  refine rC rfl ?_
  refine qA rfl rfl ?_; refine rSub ?_; refine rP rfl ?_; refine rP rfl ?_; refine ⟨_, subDi (by assumption) (by assumption), ?_⟩; refine qAA rfl ?_; refine rP rfl ?_; refine rP rfl ?_; refine ⟨_, sUp (by assumption), ?_⟩; refine qA rfl rfl ?_; refine rSo rfl ?_; refine sC ?_; refine rAttr rfl ?_; refine rP rfl ?_; refine ⟨_, (attrO set_eq).trans rfl, ?_⟩; refine sP rfl ?_; refine ⟨Nat.le_of_ble_eq_true rfl, ?_⟩
  refine ⟨_, _, rfl, soDn hn (by assumption), ?_⟩
  refine qAA rfl ?_
  refine rDn ?_
  refine rP rfl ?_; refine ⟨_, sNbr set_eq, ?_⟩; refine qRP rfl ?_
  exact hQ _ σ.n (h7.congr (fun q => by simp only [St.set, St.new]; split <;> rfl) rfl)
theorem change_ok (hg : GOk g) (h : Hp g m σ) (hp : p ∈ m.ps) (t : List UInt8) (s : Int) (hQ1 : t = m.ax p → Q (.bool false, σ)) (hQ2 : t ≠ m.ax p → ∀ σ', Hp g (m.port p t (m.up p) 0 g.c) σ' → Q (.bool true, σ')) : W (callF tbl (n + 20) M_LldpAgent_change [agentV g, .int p, .lst (wordsL (ch48 p) t s)] σ) Q := by
  have h1 := h.ports
  have h2 := h.port p hp
  have h3 := vat_map (f := fun q => .obj (.i (m.pl q))) hp
  have h9 := h.setPort hp t (m.up p) 0 g.c
  refine rC rfl ?_
  refine qA rfl rfl ?_; refine rCall rfl rfl ?_; refine sC ?_; refine rP rfl ?_; refine sC ?_; refine rMe rfl (by decide) rfl ?_; refine rP rfl ?_; refine ⟨_, MkR.inst rfl rfl, ?_⟩; refine sP rfl ?_
  refine W_of (timesG_told hg) ?_
  refine sP rfl ?_; refine ⟨Nat.le_of_ble_eq_true rfl, ?_⟩; refine ⟨Nat.le_of_ble_eq_true rfl, ?_⟩
  refine W_of (with_time_ok (ch48 p) t s (held g) (by have := hg.held; lia)) ?_
  refine qI' ?_; refine tC ?_; refine rP rfl ?_; refine rAttr rfl ?_; refine rSub ?_; refine rP rfl ?_; refine rP rfl ?_; refine ⟨_, subDi (by assumption) (by assumption), ?_⟩; refine ⟨_, (attrO (by assumption)).trans rfl, ?_⟩; refine ⟨_, rfl, ?_⟩
  have hc := peqs_words (ch48 p) t (ch48 p) (m.ax p) (held g) (held g)
  refine ⟨fun e => ?_, fun e => q0 ?_⟩
  · have e1 := of_decide_eq_true (Option.some.inj (hc.symm.trans (congrArg some e)))
    refine qRP rfl ?_
    exact hQ1 e1.2.1
  · have e1 := of_decide_eq_false (Option.some.inj (hc.symm.trans (congrArg some e)))
    refine qAA rfl ?_; refine rP rfl ?_; refine rSub ?_; refine rP rfl ?_; refine rP rfl ?_; refine ⟨_, subDi (by assumption) (by assumption), ?_⟩; refine ⟨_, sRows (by assumption), ?_⟩; refine qX rfl ?_; refine rMe rfl (by decide) rfl ?_; refine rSub ?_; refine rP rfl ?_; refine rP rfl ?_; refine ⟨_, subDi (by assumption) (by assumption), ?_⟩; refine ⟨_, MkR.obj set_eq rfl rfl, ?_⟩; refine sP rfl ?_
    refine W_of (hurry_eq set_eq) ?_
    refine qRP rfl ?_
    exact hQ2 (fun x => e1 ⟨rfl, x, rfl⟩) _ (h9.congr (fun q => ss_H.trans ss_H) rfl)
theorem frame_new {c : UInt8} {t : List UInt8} {s mac : Int} (hQ : ∀ σ', Ext0 σ σ' → Q (frameV c t s mac, σ')) : W (inst tbl (n + 20) (Str.ofString "Frame") [.int 1652522221582, .int mac, .tup [], .int 35020, .bytes (pay c t s).toArray] σ) Q := by
  refine rIz rfl (rC rfl ?_)
  refine qAA rfl ?_; refine rP rfl ?_; refine rP rfl ?_; refine ⟨_, sattO set_eq rfl, ?_⟩; refine qAA rfl ?_; refine rP rfl ?_; refine rP rfl ?_; refine ⟨_, sattO set_eq rfl, ?_⟩; refine qAA rfl ?_; refine rP rfl ?_; refine rP rfl ?_; refine ⟨_, sattO set_eq rfl, ?_⟩; refine qAA rfl ?_; refine rP rfl ?_; refine rP rfl ?_; refine ⟨_, sattO set_eq rfl, ?_⟩; refine qAA rfl ?_; refine rP rfl ?_; refine rP rfl ?_; refine ⟨_, sattO set_eq rfl, ?_⟩; refine q0 ?_; refine ⟨rfl, ?_⟩
  refine ⟨_, _, _, set_eq, hQ _ ⟨Nat.le_succ _, fun q hq => ?_⟩⟩
  have e : q ≠ .i σ.n := fun e => by rw [e] at hq; exact absurd hq (Nat.lt_irrefl _)
  exact (drop_ne e).trans ((set_ne e).trans ((set_ne e).trans ((set_ne e).trans ((set_ne e).trans ((set_ne e).trans (new_ne e))))))
theorem frame_of_ok (c : UInt8) (t : List UInt8) (s : Int) (ht : t.length ≤ 2) (h : 0 ≤ s) (h1 : s < 65536) (hQ : ∀ σ', Ext0 σ σ' → Q (frameV c t s 9, σ')) : W (callF tbl (n + 50) M_LldpAgent_frame_of [agentV g, .lst (wordsL [c] t s)] σ) Q := by
  refine rC rfl ?_
  refine qR ?_; refine rInst rfl rfl ?_; refine sC ?_; refine rP rfl ?_; refine sC ?_; refine rP rfl ?_; refine sC ?_; refine rP rfl ?_; refine sC ?_; refine rP rfl ?_; refine sC ?_; refine rCall rfl rfl ?_; refine sP rfl ?_
  refine W_of (pack_rows_ok c t s ht h h1) ?_
  refine sP rfl ?_; refine ⟨Nat.le_of_ble_eq_true rfl, ?_⟩; refine ⟨Nat.le_of_ble_eq_true rfl, ?_⟩; refine ⟨Nat.le_of_ble_eq_true rfl, ?_⟩; refine ⟨Nat.le_of_ble_eq_true rfl, ?_⟩; refine ⟨Nat.le_of_ble_eq_true rfl, ?_⟩
  exact frame_new hQ
end

section
variable {n : Nat} {σ : St} {g : G} {m : M} {p : Int} {Q : PV × St → Prop}
theorem find_own {l : List R} {r : R} (hd : l.Pairwise fun a b => a.who ≠ b.who) (hr : r ∈ l) : (l.find? fun x => decide (x.who = r.who)) = some r := by
  induction l with
  | nil => cases hr
  | cons a l ih =>
    rw [List.pairwise_cons] at hd
    rw [List.find?_cons]
    rcases List.mem_cons.mp hr with e | e
    · subst e; simp
    · have : a.who ≠ r.who := hd.1 r e
      simp only [this, decide_false]
      exact ih hd.2 e
theorem nbrs_of_ok (h : Hp g m σ) (hp : p ∈ m.ps) (hn : OkN (m.nb p)) : callF tbl (n + 16) M_LldpAgent_neighbours_of [agentV g, .int p] σ (.lst ((srt R.who (m.nb p)).map fun r => .lst (wordsL (ch65 r.who) r.txt r.sec)), σ) := by
  have h1 := h.ports
  have h2 := h.port p hp
  have h3 := vat_map (f := fun q => .obj (.i (m.pl q))) hp
  have h4 := h.nbr p hp
  have h7 : (srt R.who (m.nb p)).length ≤ 1000000 := by rw [srt_len]; have := hn.len; lia
  refine W_eq (rC rfl ?_)
  refine qA rfl rfl ?_; refine rAttr rfl ?_; refine rSub ?_; refine rP rfl ?_; refine rP rfl ?_; refine ⟨_, subDi (by assumption) (by assumption), ?_⟩; refine ⟨_, (attrO (by assumption)).trans rfl, ?_⟩; refine qR ?_; refine rCo ?_; refine c1 rfl rfl ?_; refine iE' ?_; refine rSo rfl ?_; refine sP rfl ?_
  refine ⟨_, _, rfl, soDn hn h4, ?_⟩
  refine ⟨_, _, rfl, ?_⟩
  refine W_compM (g := fun r => [.lst (wordsL (ch65 r.who) r.txt r.sec)]) (fun r hr => ?_) ?_
  · have hr' : r ∈ m.nb p := srt_mem.mp hr
    have h9 := vat_n hn.rng (hn.rng r hr')
    rw [find_own hn.dis hr', Option.map_some] at h9
    refine u0 rfl rfl ?_; refine rAttr rfl ?_; refine rSub ?_; refine rP rfl ?_; refine rP rfl ?_
    refine ⟨_, subDn h4 h9, ?_⟩
    refine ⟨_, rfl, ?_⟩; refine ⟨rfl, ?_⟩
    exact ⟨Sub.set rfl, rfl⟩
  · rw [flat_one]
    refine ⟨by rw [List.length_map]; exact h7, ?_⟩
    rfl
end

section
variable {n : Nat} {σ : St} {g : G} {m : M} {p w s now mac : Int} {t : List UInt8} {Q : PV × St → Prop}
variable {H : M → St → Prop}
theorem heard_bad (A : Ag g H) (h : H m σ) (hp : p ∈ m.ps) (hu : m.up p = false) (hQ : Q (strE "bad", σ)) : W (callF tbl (n + 50) M_LldpAgent_heard [agentV g, .int p, frameV (65 + w).toNat.toUInt8 t s mac, .int now] σ) Q := by
  have h1 := A.ports h
  have h2 := A.port h p hp
  have h3 := vat_map (f := fun q => .obj (.i (m.pl q))) hp
  rw [hu] at h2
  refine rC rfl ?_
  refine qA rfl rfl ?_; refine rSub ?_; refine rP rfl ?_; refine rP rfl ?_; refine ⟨_, subDi (by assumption) (by assumption), ?_⟩; refine qI' ?_; refine tOrF rfl rfl ?_; refine tOne ?_; refine tN ?_; refine tV rfl ?_; refine rAttr rfl ?_; refine rP rfl ?_; refine ⟨_, (attrO (by assumption)).trans rfl, ?_⟩; refine ⟨_, rfl, ?_⟩; refine ⟨fun _ => ?_, fun e => bTF e⟩; refine qRP rfl ?_
  exact hQ
theorem nbr_ok {r : PV} {u : Int} (hQ : ∀ σ', Ext0 σ σ' → Q (.inst (Str.ofString "Neighbour") [Str.ofString "rows", Str.ofString "until"] [r, .int u], σ')) : W (inst tbl (n + 20) (Str.ofString "Neighbour") [r, .int u] σ) Q := by
  refine rIz rfl (rC rfl ?_)
  refine qAA rfl ?_; refine rP rfl ?_; refine rP rfl ?_; refine ⟨_, sattO set_eq rfl, ?_⟩; refine qAA rfl ?_; refine rP rfl ?_; refine rP rfl ?_; refine ⟨_, sattO set_eq rfl, ?_⟩; refine q0 ?_; refine ⟨rfl, ?_⟩
  refine ⟨_, _, _, set_eq, hQ _ ⟨Nat.le_succ _, fun q hq => ?_⟩⟩
  have e : q ≠ .i σ.n := fun e => by rw [e] at hq; exact absurd hq (Nat.lt_irrefl _)
  exact (drop_ne e).trans ((set_ne e).trans ((set_ne e).trans (new_ne e)))
theorem heard_ok (A : Ag g H) (h : H m σ) (hp : p ∈ m.ps) (hn : OkN (m.nb p)) (hu : m.up p = true) (hw : 0 ≤ w ∧ w < 5) (ht : t.length ≤ 2) (h0 : 0 ≤ s) (h1 : s < 65536)
    (hQ : ∀ σ', match ((m.nb p).find? fun x => decide (x.who = w)) with
      | none => if s = 0 then H m σ' → Q (strE "unknown", σ') else if g.most ≤ (m.nb p).length then H m σ' → Q (strE "full", σ') else H { m.port p (m.ax p) true 0 g.c with nb := fu m.nb p (stoR (m.nb p) ⟨p, w, t, s, now + s⟩) } σ' → Q (strE "new", σ')
      | some r => if s = 0 then H { m with nb := fu m.nb p ((m.nb p).filter fun x => decide (x.who ≠ w)) } σ' → Q (strE "gone", σ') else H { m with nb := fu m.nb p (stoR (m.nb p) ⟨p, w, t, s, now + s⟩) } σ' → Q (strE (if r.txt = t ∧ r.sec = s then "same" else "changed"), σ')) :
    W (callF tbl (n + 56) M_LldpAgent_heard [agentV g, .int p, frameV (65 + w).toNat.toUInt8 t s mac, .int now] σ) Q := by
  have k1 := A.ports h
  have k2 := A.port h p hp
  have k3 := vat_map (f := fun q => .obj (.i (m.pl q))) hp
  rw [hu] at k2
  refine rC rfl ?_
  refine qA rfl rfl ?_; refine rSub ?_; refine rP rfl ?_; refine rP rfl ?_; refine ⟨_, subDi (by assumption) (by assumption), ?_⟩; refine qI' ?_; refine tOrF rfl rfl ?_; refine tOne ?_; refine tN ?_; refine tV rfl ?_; refine rAttr rfl ?_; refine rP rfl ?_; refine ⟨_, (attrO (by assumption)).trans rfl, ?_⟩; refine ⟨_, rfl, ?_⟩; refine ⟨fun e => bFT e, fun _ => ?_⟩; refine q0 ?_; refine qTr ?_; refine qA rfl rfl ?_; refine rCall rfl rfl ?_; refine sP rfl ?_
  refine unpack_ok ht h0 h1 fun σ1 hx => ?_
  clear k1 k2
  replace h := A.ext h hx
  have k1 := A.ports h
  have k2 := A.port h p hp
  rw [hu] at k2
  have k4 := A.nbr h p hp
  have k5 := vat_n hn.rng hw
  have k8 : (m.nb p).length ≤ 16777216 := by have := hn.len; lia
  have k9 : ((m.nb p).map nbrE).length ≤ 1000000 := by rw [List.length_map]; have := hn.len; lia
  refine q0 ?_; refine qAT rfl ?_; refine sP rfl ?_; refine gN rfl ?_; refine gN rfl ?_; refine g0 ?_; refine qI' ?_; refine tP rfl ?_
  refine ⟨fun e => ?_, fun e => q0 ?_⟩
  · have hs : s = 0 := of_decide_eq_true e
    refine qR ?_; refine rIf' ?_; refine tC ?_; refine rMb rfl (by decide) rfl ?_; refine rAttr rfl ?_; refine rP rfl ?_; refine ⟨_, (attrO (by assumption)).trans rfl, ?_⟩
    refine ⟨_, .popN k4, ?_⟩
    refine sP rfl ?_
    cases hf : (m.nb p).find? fun x => decide (x.who = w) with
    | none =>
      rw [hf] at k5
      simp only [hf, if_pos hs] at hQ
      refine W_of (.pop0 (k := keyN w) k4 k9 k5) ?_
      refine rP rfl ?_; refine ⟨_, rfl, ?_⟩; refine ⟨fun _ => ?_, fun e => bTF e⟩; refine rP rfl ?_
      exact hQ _ h
    | some r =>
      rw [hf] at k5
      simp only [hf, if_pos hs] at hQ
      have k15 := A.setNb h hp ((m.nb p).filter fun x => decide (x.who ≠ w))
      rw [← wou_n hn.rng hw] at k15
      refine W_of (.popD (k := keyN w) k4 k9 k5) ?_
      refine rP rfl ?_; refine ⟨_, rfl, ?_⟩; refine ⟨fun e => bFT e, fun _ => ?_⟩; refine rP rfl ?_
      exact hQ _ k15
  · have hs : ¬ s = 0 := of_decide_eq_false e
    refine qA rfl rfl ?_; refine rMb rfl (by decide) rfl ?_; refine rAttr rfl ?_; refine rP rfl ?_; refine ⟨_, (attrO (by assumption)).trans rfl, ?_⟩
    refine ⟨_, .get k4, ?_⟩
    refine sP rfl ?_
    have k13 := fun {σ' : St} (hx' : Ext0 σ1 σ') => (A.setNb (A.ext h hx') hp (stoR (m.nb p) ⟨p, w, t, s, now + s⟩))
    rw [← sto_n (r := ⟨p, w, t, s, now + s⟩) hn.rng hw] at k13
    cases hf : (m.nb p).find? fun x => decide (x.who = w) with
    | none =>
      rw [hf] at k5
      simp only [hf, if_neg hs] at hQ
      refine W_of (.get0 (k := keyN w) k4 k5) ?_
      refine qI' ?_; refine tAndT rfl rfl ?_; refine tOne ?_; refine tC ?_; refine rBi rfl rfl ?_; refine sC ?_; refine rAttr rfl ?_; refine rP rfl ?_; refine ⟨_, (attrO (by assumption)).trans rfl, ?_⟩; refine sP rfl ?_; refine ⟨Nat.le_of_ble_eq_true rfl, ?_⟩
      refine ⟨_, lenDn k4 (by rw [List.length_map]; exact k8), ?_⟩
      rw [List.length_map]
      refine rP rfl ?_; refine ⟨_, rfl, ?_⟩
      refine ⟨fun e => ?_, fun e => q0 ?_⟩
      · have hm : g.most ≤ (m.nb p).length := of_decide_eq_true e
        simp only [if_pos hm] at hQ
        refine qRP rfl ?_
        exact hQ _ h
      · have hm : ¬ g.most ≤ (m.nb p).length := of_decide_eq_false e
        simp only [if_neg hm] at hQ
        refine qAS rfl ?_; refine rInst rfl rfl ?_; refine sP rfl ?_
        refine nbr_ok fun σ2 hx2 => ?_
        clear k1 k2 k4
        have h' := A.ext h hx2
        have k2 := A.port h' p hp
        have k4 := A.nbr h' p hp
        rw [hu] at k2
        refine rAttr rfl ?_; refine rP rfl ?_; refine ⟨_, (attrO (by assumption)).trans rfl, ?_⟩; refine rP rfl ?_
        refine ⟨_, stoDn (k := keyN w) k4 k9, ?_⟩
        refine qT' rfl ?_; refine qX rfl ?_; refine rMe rfl (by decide) rfl ?_; refine rP rfl ?_; refine ⟨_, MkR.obj (by assumption) rfl rfl, ?_⟩; refine sP rfl ?_
        refine W_of (hurry_eq (by assumption)) ?_
        refine qRP rfl ?_
        exact hQ _ (A.congr (A.setPort (p := p) (k13 hx2) hp (m.ax p) true 0 g.c) (fun q => ss_H) rfl)
    | some r =>
      rw [hf] at k5
      simp only [hf, if_neg hs] at hQ
      refine W_of (.get (k := keyN w) k4 k5) ?_
      refine qI' ?_; refine tAnd ?_; refine tP rfl ?_; refine ⟨fun e => bFT e, fun _ => ?_⟩; refine ⟨fun e => bFT e, fun _ => ?_⟩; refine q0 ?_; refine qAS rfl ?_; refine rInst rfl rfl ?_; refine sP rfl ?_
      refine nbr_ok fun σ2 hx2 => ?_
      clear k1 k2 k4
      have h' := A.ext h hx2
      have k2 := A.port h' p hp
      have k4 := A.nbr h' p hp
      rw [hu] at k2
      refine rAttr rfl ?_; refine rP rfl ?_; refine ⟨_, (attrO (by assumption)).trans rfl, ?_⟩; refine rP rfl ?_
      refine ⟨_, stoDn (k := keyN w) k4 k9, ?_⟩
      refine qF' rfl ?_; refine qR ?_; refine rIf' ?_; refine tP rfl ?_
      have hrw : r.who = w := by have := List.find?_some hf; simpa using this
      have hc := peqs_words (ch65 r.who) r.txt (ch65 w) t r.sec s
      refine ⟨fun e => ?_, fun e => ?_⟩
      · have e1 := of_decide_eq_true (Option.some.inj (hc.symm.trans (congrArg some e)))
        rw [if_pos e1.2] at hQ
        exact rP rfl (hQ _ (k13 hx2))
      · have e1 := of_decide_eq_false (Option.some.inj (hc.symm.trans (congrArg some e)))
        rw [if_neg fun x => e1 ⟨by rw [hrw], x⟩] at hQ
        exact rP rfl (hQ _ (k13 hx2))
end

theorem sort_ints {l : List Int} (hl : l.length ≤ 3) (hd : l.Pairwise fun a b => a ≠ b) : (if sortKind (l.map PV.int) then (sortL (l.map PV.int)).map PV.lst else none) = some (.lst ((srt id l).map PV.int)) := by
  have hk : sortKind (l.map PV.int) = true := by
    unfold sortKind
    rw [Bool.or_eq_true, Bool.or_eq_true]
    refine .inl (.inl ?_)
    rw [List.all_map, List.all_eq_true]
    intro r _
    rfl
  rw [if_pos hk, sortL_key (key := id) hl hd fun a b _ _ hn => rfl]
  rfl
section
variable {g : G} {m : M} {σ σ' : St} {k : Nat} {o : Option AO}
theorem Hp.offL (h : Hp g m σ) (h1 : g.s ≠ k) (h2 : ∀ p ∈ m.ord, m.cl p ≠ k) (e : ∀ q, q ≠ .l k → σ'.H q = σ.H q) (n : σ'.n = σ.n) : Hp g m σ' where
  src := by obtain ⟨x, y, h3⟩ := h.src; exact ⟨x, y, (e _ (lne h1)).trans h3⟩
  ports := (e _ (by simp)).trans h.ports
  port := fun q hq => (e _ (by simp)).trans (h.port q hq)
  nbr := fun q hq => (e _ (by simp)).trans (h.nbr q hq)
  scene := (e _ (by simp)).trans h.scene
  words := (e _ (by simp)).trans h.words
  clocks := (e _ (by simp)).trans h.clocks
  clock := fun q hq => (e _ (lne (h2 q hq))).trans (h.clock q hq)
  o1 := h.o1
  o2 := h.o2
  o3 := h.o3
  o4 := h.o4
  o5 := by rw [n]; exact h.o5
  plt := by rw [n]; exact h.plt
  pli := h.pli
  nlt := by rw [n]; exact h.nlt
  nli := h.nli
  clt := by rw [n]; exact h.clt
  cli := h.cli
theorem Hp.nbEq (h : Hp g m σ) {nb : Int → List R} (e : ∀ p ∈ m.ps, nb p = m.nb p) : Hp g { m with nb := nb } σ where
  src := h.src
  ports := h.ports
  port := h.port
  nbr := fun p hp => by dsimp only; rw [e p hp]; exact h.nbr p hp
  scene := h.scene
  words := h.words
  clocks := h.clocks
  clock := h.clock
  o1 := h.o1
  o2 := h.o2
  o3 := h.o3
  o4 := h.o4
  o5 := h.o5
  plt := h.plt
  pli := h.pli
  nlt := h.nlt
  nli := h.nli
  clt := h.clt
  cli := h.cli
end
theorem OkN.filter {l : List R} (h : OkN l) (c : R → Bool) : OkN (l.filter c) := ⟨Nat.le_trans (List.length_filter_le _ _) h.len, h.dis.filter c, fun r hr => h.rng r (List.mem_filter.mp hr).1⟩
/-- what expire keeps of a port's neighbours while it still has to look at those in l -/
noncomputable def keep (now : Int) (l nb : List R) : List R := nb.filter fun x => decide (now < x.til) || l.any fun y => decide (y.who = x.who)
theorem keep_all {now : Int} {l nb : List R} (h : ∀ x ∈ nb, ∃ y ∈ l, y.who = x.who) : keep now l nb = nb := by
  unfold keep
  rw [List.filter_eq_self]
  intro x hx
  obtain ⟨y, hy, e⟩ := h x hx
  rw [Bool.or_eq_true, List.any_eq_true]
  exact .inr ⟨y, hy, by simpa using e⟩
theorem keep_nil {now : Int} {nb : List R} : keep now [] nb = nb.filter fun x => decide (now < x.til) := by
  unfold keep; congr 1; funext x; simp
theorem who_uniq {nb : List R} (hd : nb.Pairwise fun a b => a.who ≠ b.who) {x y : R} (hx : x ∈ nb) (hy : y ∈ nb) (e : x.who = y.who) : x = y := by
  have h1 := find_own hd hx
  have h2 := find_own hd hy
  rw [e, h2] at h1
  exact (Option.some.inj h1).symm
theorem keep_out {now : Int} {r : R} {l nb : List R} (hd : nb.Pairwise fun a b => a.who ≠ b.who) (hr : r ∈ nb) (hl : ∀ y ∈ l, y.who ≠ r.who) (ht : r.til ≤ now) : (keep now (r :: l) nb).filter (fun x => decide (x.who ≠ r.who)) = keep now l nb := by
  unfold keep
  rw [List.filter_filter]
  refine List.filter_congr fun x hx => ?_
  rw [List.any_cons]
  by_cases e : x.who = r.who
  · have : x = r := who_uniq hd hx hr e
    subst this
    have h1 : (l.any fun y => decide (y.who = x.who)) = false := by
      rw [List.any_eq_false]; intro y hy; simpa using hl y hy
    rw [h1]
    have h2 : ¬ now < x.til := by lia
    simp [h2]
  · simp [e, Ne.symm e]
theorem keep_in {now : Int} {r : R} {l nb : List R} (hd : nb.Pairwise fun a b => a.who ≠ b.who) (hr : r ∈ nb) (ht : now < r.til) : keep now (r :: l) nb = keep now l nb := by
  unfold keep
  refine List.filter_congr fun x hx => ?_
  rw [List.any_cons]
  by_cases e : x.who = r.who
  · have : x = r := who_uniq hd hx hr e
    subst this
    simp [ht]
  · simp [Ne.symm e]
theorem keep_mem {now : Int} {r : R} {l nb : List R} (hr : r ∈ nb) : r ∈ keep now (r :: l) nb := by
  unfold keep
  rw [List.mem_filter]
  refine ⟨hr, ?_⟩
  simp

section
variable {α : Type} {n : Nat} {sc : Scope} {σ₀ : St} {b : List Stmt} {nm : Str} {pp : Pos} {F : α → PV} {L : Ls} {I : List α → St → Prop} {K : Fl → Ls → St → Prop}
/-- a loop whose turns begin with the same names -/
theorem W_loopC (hv : asgN sc nm = true) (hs : ∀ r l σ, I (r :: l) σ → SQ (n + 1) sc b (setL nm (F r) L) σ fun x l2 s2 => x.goes = true ∧ Sub L l2 ∧ I l s2) (hq : ∀ σ, I [] σ → K .next L σ) (l : List α) (σ : St) (h : I l σ) : LF (n + 1) sc (.Name nm pp) b none σ₀ (l.map F) L σ K :=
  W_loopM (I := fun l ls σ => ls = L ∧ I l σ) hv (fun r l ls σ hi => by
    obtain ⟨rfl, hi⟩ := hi
    obtain ⟨x, l2, s2, h1, h2, h3, h4⟩ := hs r l σ hi
    exact ⟨x, l2, s2, h1, _, h2, h3, rfl, h4⟩) (fun ls σ hi => by obtain ⟨rfl, hi⟩ := hi; exact hq σ hi) l L σ ⟨rfl, h⟩
end
noncomputable def fB : List Stmt → List Stmt
  | [] => []
  | .For _ _ b _ _ :: _ => b
  | _ :: r => fB r
noncomputable def expT (now : Int) (p : Int) (l : List R) : List PV := (l.filter fun r => decide (r.til ≤ now)).map fun r => .tup [.int p, nameV r.who]
noncomputable def expA (now : Int) (m : M) (l : List Int) : List PV := l.flatMap fun p => expT now p (srt R.who (m.nb p))
/-- the model when expire still has to look at the ports in l -/
noncomputable def expM (now : Int) (m : M) (l : List Int) : M := { m with nb := fun q => if q ∈ l then m.nb q else (m.nb q).filter fun x => decide (now < x.til) }
structure ExI (g : G) (m : M) (now : Int) (k : Nat) (tot : List PV) (l : List Int) (σ : St) : Prop where
  hp : Hp g (expM now m l) σ
  fd : ∃ acc, σ.H (.l k) = some (.lst acc) ∧ acc ++ expA now m l = tot
  k1 : g.s < k
  k2 : ∀ p ∈ m.ord, m.cl p < k
  k3 : k < σ.n
  nd : l.Nodup
  sub : ∀ p ∈ l, p ∈ m.ps
structure ExJ (g : G) (m : M) (p now : Int) (k : Nat) (tot : List PV) (l : List R) (σ : St) : Prop where
  hp : Hp g { m with nb := fu m.nb p (keep now l (m.nb p)) } σ
  fd : ∃ acc, σ.H (.l k) = some (.lst acc) ∧ acc ++ expT now p l = tot
  k3 : k < σ.n
  nd : l.Pairwise fun a b => a.who ≠ b.who
  sub : ∀ r ∈ l, r ∈ m.nb p
theorem expT_cons {now p : Int} {r : R} {l : List R} : expT now p (r :: l) = (if r.til ≤ now then [.tup [.int p, nameV r.who]] else []) ++ expT now p l := by
  unfold expT
  rw [List.filter_cons]
  by_cases h : r.til ≤ now
  · simp [h]
  · simp [h]
noncomputable def exBd : List Stmt := match fB M_LldpAgent_expire.body with
  | [_, .For _ _ b _ _] => b
  | _ => []
noncomputable def exL (g : G) (k : Nat) (now : Int) : Ls := [(Str.ofString "self", agentV g), (Str.ofString "now", .int now), (Str.ofString "found", .obj (.l k))]
noncomputable def exLj (g : G) (k : Nat) (now p : Int) (l : Nat) : Ls := [(Str.ofString "self", agentV g), (Str.ofString "now", .int now), (Str.ofString "found", .obj (.l k)), (Str.ofString "port", .int p), (Str.ofString "neighbours", .obj (.d l))]
section
variable {n1 n : Nat} {σ : St} {g : G} {m : M} {p now : Int} {k : Nat} {tot : List PV}
theorem exp_in {r : R} {l : List R} (hps : p ∈ m.ps) (hn : OkN (m.nb p)) (k1 : g.s < k) (k2 : ∀ p ∈ m.ord, m.cl p < k) (ht : tot.length ≤ 1000) (h : ExJ g m p now k tot (r :: l) σ) :
    SQ (n + 12) M_LldpAgent_expire.scope exBd (setL (Str.ofString "name") (nameV r.who) (exLj g k now p (m.nl p))) σ fun x l2 s2 => x.goes = true ∧ Sub (exLj g k now p (m.nl p)) l2 ∧ ExJ g m p now k tot l s2 := by
  have hr := h.sub r (List.mem_cons_self ..)
  have h1 := h.hp.nbr p hps
  dsimp only at h1
  rw [fu_same] at h1
  have hk : OkN (keep now (r :: l) (m.nb p)) := hn.filter _
  have hrk := keep_mem (now := now) (l := l) hr
  have h2 := vat_n hk.rng (hn.rng r hr)
  rw [find_own hk.dis hrk, Option.map_some] at h2
  have h4 := wou_n hk.rng (hn.rng r hr)
  have h5 : ((keep now (r :: l) (m.nb p)).map nbrE).length ≤ 1000000 := by rw [List.length_map]; have := hk.len; lia
  obtain ⟨acc, h6, h7⟩ := h.fd
  have hd := h.nd
  rw [List.pairwise_cons] at hd
  have hl : ∀ y ∈ l, y.who ≠ r.who := fun y hy => Ne.symm (hd.1 y hy)
  have h13 : acc.length ≤ 1000000 := by
    have := congrArg List.length h7
    rw [List.length_append] at this; lia
  rw [expT_cons] at h7
  have hw : Sub (exLj g k now p (m.nl p)) (setL (Str.ofString "name") (nameV r.who) (exLj g k now p (m.nl p))) := Sub.set rfl
  refine qI' ?_; refine tC ?_; refine rAttr rfl ?_; refine rSub ?_; refine rP rfl ?_; refine rP rfl ?_
  refine ⟨_, subDn h1 h2, ?_⟩
  refine ⟨_, rfl, ?_⟩; refine rP rfl ?_; refine ⟨_, rfl, ?_⟩
  refine ⟨fun e => ?_, fun e => q0 ?_⟩
  · have hx : r.til ≤ now := of_decide_eq_true e
    rw [keep_out hn.dis hr hl hx] at h4
    rw [if_pos hx] at h7
    refine qX rfl ?_; refine rMb rfl (by decide) rfl ?_; refine rP rfl ?_
    refine ⟨_, .popN h1, ?_⟩
    refine sP rfl ?_
    refine W_of (.popN h1 h5 h2) ?_
    rw [h4]
    refine qX rfl ?_; refine rMb rfl (by decide) rfl ?_; refine rP rfl ?_; refine ⟨_, MkR.append (by assumption), ?_⟩; refine sP rfl ?_
    refine W_of (.append (by assumption) h13) ?_
    refine q0 ?_; refine q0 ?_; refine ⟨rfl, ?_⟩
    have hp' := ((h.hp.setNb hps (keep now l (m.nb p))).nbEq (nb := fu m.nb p (keep now l (m.nb p))) fun q _ => by show fu _ _ _ q = fu (fu _ _ _) _ _ q; unfold fu; split <;> rfl)
    refine ⟨hw, hp'.offL (Nat.ne_of_lt k1) (fun q hq => Nat.ne_of_lt (k2 q hq)) (fun q hq => set_ne hq) rfl, ⟨_, set_eq, ?_⟩, h.k3, hd.2, fun y hy => h.sub y (List.mem_cons_of_mem _ hy)⟩
    rw [List.append_assoc]; exact h7
  · have hx : ¬ r.til ≤ now := of_decide_eq_false e
    rw [if_neg hx, List.nil_append] at h7
    refine q0 ?_; refine ⟨rfl, ?_⟩
    refine ⟨hw, ?_, ⟨_, h6, h7⟩, h.k3, hd.2, fun y hy => h.sub y (List.mem_cons_of_mem _ hy)⟩
    have := h.hp
    rw [keep_in hn.dis hr (by lia)] at this
    exact this
set_option tactic.hygienic true in
theorem exp_out {l : List Int} (hn : ∀ p ∈ m.ps, OkN (m.nb p)) (ht : tot.length ≤ 1000) (h : ExI g m now k tot (p :: l) σ) :
    SQ (n + 20) M_LldpAgent_expire.scope (fB M_LldpAgent_expire.body) (setL (Str.ofString "port") (.int p) (exL g k now)) σ fun x l2 s2 => x.goes = true ∧ Sub (exL g k now) l2 ∧ ExI g m now k tot l s2 := by
  have hps := h.sub p (List.mem_cons_self ..)
  have hnd := List.nodup_cons.mp h.nd
  have hok := hn p hps
  obtain ⟨acc, h6, h7⟩ := h.fd
  have e0 : (expM now m (p :: l)).nb p = m.nb p := if_pos (List.mem_cons_self ..)
  have h1 := h.hp.ports
  have h2 := h.hp.port p hps
  have h3 := vat_map (f := fun q => .obj (.i (m.pl q))) hps
  have h4 := h.hp.nbr p hps
  rw [e0] at h4
  dsimp only [expM] at h1 h2 h4
  have ht1 : (acc ++ expT now p (srt R.who (m.nb p))).length ≤ 1000 := by
    have := congrArg List.length h7
    unfold expA at this
    rw [List.flatMap_cons, ← List.append_assoc, List.length_append] at this
    lia
  refine qA rfl rfl ?_; refine rAttr rfl ?_; refine rSub ?_; refine rP rfl ?_; refine rP rfl ?_; refine ⟨_, subDi (by assumption) (by assumption), ?_⟩; refine ⟨_, (attrO (by assumption)).trans rfl, ?_⟩; refine qFo rfl ?_; refine iE' ?_; refine rSo rfl ?_; refine sP rfl ?_
  refine ⟨_, _, rfl, soDn hok h4, ?_⟩
  refine ⟨_, _, rfl, ?_⟩
  refine W_loopC (L := exLj g k now p (m.nl p)) (I := ExJ g (expM now m (p :: l)) p now k (acc ++ expT now p (srt R.who (m.nb p)))) rfl (fun r l' σ hj => exp_in (m := expM now m (p :: l)) hps (by rw [e0]; exact hok) h.k1 h.k2 ht1 hj) (fun σ' hj => ?_) _ _ ?_
  · refine q0 ⟨rfl, Sub.cons rfl (Sub.cons rfl (Sub.cons rfl Sub.nil)), hj.hp.nbEq (nb := (expM now m l).nb) (fun q hq => ?_), ?_, h.k1, h.k2, hj.k3, hnd.2, fun q hq => h.sub q (List.mem_cons_of_mem _ hq)⟩
    · by_cases e : q = p
      · subst e
        show (if q ∈ l then m.nb q else _) = fu _ _ _ _
        rw [fu_same, if_neg hnd.1, keep_nil, e0]
      · show (if q ∈ l then m.nb q else _) = fu _ _ _ _
        rw [fu_ne e]
        show _ = if q ∈ p :: l then m.nb q else _
        simp only [List.mem_cons, e, false_or]
    · obtain ⟨acc', f1, f2⟩ := hj.fd
      refine ⟨acc', f1, ?_⟩
      have : expT now p [] = [] := rfl
      rw [this, List.append_nil] at f2
      rw [f2, List.append_assoc]
      exact h7
  · refine ⟨?_, ⟨acc, h6, rfl⟩, h.k3, (srt_lt hok.dis).imp fun h => by lia, fun r hr => by rw [e0]; exact srt_mem.mp hr⟩
    refine h.hp.nbEq fun q _ => ?_
    rw [e0, keep_all fun x hx => ⟨x, srt_mem.mpr hx, rfl⟩, ← e0]
    unfold fu; split
    · rename_i e; rw [e]
    · rfl
theorem expA_len {l : List Int} (h : ∀ p ∈ l, OkN (m.nb p)) : (expA now m l).length ≤ 3 * l.length := by
  induction l with
  | nil => exact Nat.le_refl _
  | cons p l ih =>
    have h1 := ih fun q hq => h q (List.mem_cons_of_mem _ hq)
    have h2 := (h p (List.mem_cons_self ..)).len
    unfold expA at *
    rw [List.flatMap_cons, List.length_append, List.length_cons]
    have h3 : (expT now p (srt R.who (m.nb p))).length ≤ 3 := by
      unfold expT
      rw [List.length_map]
      refine Nat.le_trans (List.length_filter_le _ _) ?_
      rw [srt_len]; exact h2
    lia
/-- the ports: few, rising -/
structure OkP (l : List Int) : Prop where
  len : l.length ≤ 3
  inc : l.Pairwise fun a b => a < b
theorem OkP.srt {l : List Int} (h : OkP l) : srt id l = l := srt_uniq h.inc (.refl _)
theorem OkP.nd {l : List Int} (h : OkP l) : l.Nodup := h.inc.imp fun h => by lia
theorem sort_ports {l : List Int} (h : OkP l) : (if sortKind (l.map PV.int) then (sortL (l.map PV.int)).map PV.lst else none) = some (.lst (l.map PV.int)) := by
  rw [sort_ints h.len h.nd, h.srt]
theorem soPorts {f : Int → PV} {l : List Int} {r : Loc} (hl : OkP l) (h : σ.H r = some (.di (l.map fun p => (p, f p)))) : sortv σ (.obj r) = some (.lst (l.map PV.int)) := by
  rw [soO h]
  show (if sortKind ((l.map fun p => (p, f p)).map fun e => PV.int e.1) then _ else _) = _
  rw [List.map_map]
  exact sort_ports hl
theorem expire_ok {Q : PV × St → Prop} (h : Hp g m σ) (hps : OkP m.ps) (hn : ∀ p ∈ m.ps, OkN (m.nb p)) (hQ : ∀ σ', Hp g (expM now m []) σ' → Q (.lst (expA now m m.ps), σ')) : W (callF tbl (n + 22) M_LldpAgent_expire [agentV g, .int now] σ) Q := by
  have h1 := h.ports
  have hl := expA_len (now := now) hn
  have hps3 := hps.len
  have o1 := h.o1
  have o2 := h.o2
  have o3 := h.o3
  have o4 := h.o4
  have o5 := h.o5
  refine rC rfl (qA rfl rfl (rLn (s0 ?_)))
  refine qFo rfl ?_; refine iE' ?_; refine rSo rfl ?_; refine sP rfl ?_
  refine ⟨_, _, rfl, soPorts hps (by assumption), ?_⟩
  refine ⟨_, _, rfl, ?_⟩
  refine W_loopC (L := exL g σ.n now) (I := ExI g m now σ.n (expA now m m.ps)) rfl (fun p l σ hi => exp_out hn (by lia) hi) (fun σ' hi => ?_) _ _ ?_
  · obtain ⟨acc, f1, f2⟩ := hi.fd
    have f3 : expA now m [] = [] := rfl
    rw [f3, List.append_nil] at f2
    subst f2
    exact qRF (rP rfl ⟨_, _, rfl, f1, hQ _ (hi.hp.offL (Nat.ne_of_lt hi.k1) (fun q hq => Nat.ne_of_lt (hi.k2 q hq)) (fun q hq => drop_ne hq) rfl)⟩)
  · have hx : Ext0 σ (σ.new (.l σ.n) (.lst [])) := ⟨Nat.le_succ _, fun q hq => by
      have e : q ≠ .l σ.n := fun e => by rw [e] at hq; exact absurd hq (Nat.lt_irrefl _)
      exact new_ne e⟩
    exact ⟨(h.nbEq (nb := (expM now m m.ps).nb) fun q hq => if_pos hq).ext hx, ⟨[], new_eq, rfl⟩, by lia, fun q hq => (h.clt q hq).2, Nat.lt_succ_self _, hps.nd, fun q hq => hq⟩
end

noncomputable def tickW (g : G) (w f : Int) : Int := if 0 < w then w - 1 else (if 0 < max 0 (f - 1) then 1 else g.a) - 1
noncomputable def tickF (w f : Int) : Int := if 0 < w then f else max 0 (f - 1)
noncomputable def secM (g : G) (m : M) (l : List Int) : M := { m with
  aw := fun q => if q ∈ l then m.aw q else if m.up q = true then tickW g (m.aw q) (m.af q) else m.aw q
  af := fun q => if q ∈ l then m.af q else if m.up q = true then tickF (m.aw q) (m.af q) else m.af q }
noncomputable def secOn (m : M) (p : Int) : Bool := m.up p && !decide (0 < m.aw p)
noncomputable def secT (g : G) (m : M) (p : Int) : PV := .tup [.int p, frameV (48 + p).toNat.toUInt8 (m.ax p) (held g) 9]
noncomputable def secA (g : G) (m : M) (l : List Int) : List PV := (l.filter (secOn m)).map (secT g m)
theorem Hp.rowEq {g : G} {m : M} {σ : St} (h : Hp g m σ) {aw af : Int → Int} (e1 : ∀ p ∈ m.ps, aw p = m.aw p) (e2 : ∀ p ∈ m.ps, af p = m.af p) : Hp g { m with aw := aw, af := af } σ where
  src := h.src
  ports := h.ports
  port := fun p hp => by dsimp only; rw [e1 p hp, e2 p hp]; exact h.port p hp
  nbr := h.nbr
  scene := h.scene
  words := h.words
  clocks := h.clocks
  clock := h.clock
  o1 := h.o1
  o2 := h.o2
  o3 := h.o3
  o4 := h.o4
  o5 := h.o5
  plt := h.plt
  pli := h.pli
  nlt := h.nlt
  nli := h.nli
  clt := h.clt
  cli := h.cli
/-- as setPort, where the text and the state stay -/
theorem Hp.setRow {g : G} {m : M} {σ : St} {p : Int} (h : Hp g m σ) (hp : p ∈ m.ps) (w f : Int) : Hp g { m with aw := fu m.aw p w, af := fu m.af p f } (σ.set (.i (m.pl p)) (some (portV g p (m.ax p) (m.up p) w f (m.nl p)))) where
  src := by obtain ⟨x, y, h1⟩ := h.src; exact ⟨x, y, (set_ne (by simp)).trans h1⟩
  ports := (set_ne (by simp)).trans h.ports
  port := fun q hq => by
    by_cases e : q = p
    · subst e; dsimp only; rw [fu_same, fu_same, set_eq]
    · dsimp only; rw [fu_ne e, fu_ne e, set_ne (ine fun e1 => e (h.pli q hq p hp e1))]; exact h.port q hq
  nbr := fun p hp => (set_ne (by simp)).trans (h.nbr p hp)
  scene := (set_ne (by simp)).trans h.scene
  words := (set_ne (by simp)).trans h.words
  clocks := (set_ne (by simp)).trans h.clocks
  clock := fun p hp => (set_ne (by simp)).trans (h.clock p hp)
  o1 := h.o1
  o2 := h.o2
  o3 := h.o3
  o4 := h.o4
  o5 := h.o5
  plt := h.plt
  pli := h.pli
  nlt := h.nlt
  nli := h.nli
  clt := h.clt
  cli := h.cli
structure SeI (g : G) (m : M) (k : Nat) (tot : List PV) (l : List Int) (σ : St) : Prop where
  hp : Hp g (secM g m l) σ
  fd : ∃ acc, σ.H (.l k) = some (.lst acc) ∧ acc ++ secA g m l = tot
  k1 : g.s < k
  k2 : ∀ p ∈ m.ord, m.cl p < k
  k3 : k < σ.n
  nd : l.Nodup
  sub : ∀ p ∈ l, p ∈ m.ps
theorem secA_cons {g : G} {m : M} {p : Int} {l : List Int} : secA g m (p :: l) = (if secOn m p = true then [secT g m p] else []) ++ secA g m l := by
  unfold secA
  rw [List.filter_cons]
  split <;> rfl
theorem secM_step {g : G} {m : M} {p : Int} {l : List Int} {σ : St} {w f : Int} (hn : p ∉ l) (hw : w = if m.up p = true then tickW g (m.aw p) (m.af p) else m.aw p) (hf : f = if m.up p = true then tickF (m.aw p) (m.af p) else m.af p)
    (h : Hp g { secM g m (p :: l) with aw := fu (secM g m (p :: l)).aw p w, af := fu (secM g m (p :: l)).af p f } σ) : Hp g (secM g m l) σ := by
  refine h.rowEq (aw := (secM g m l).aw) (af := (secM g m l).af) (fun q hq => ?_) (fun q hq => ?_)
  · by_cases e : q = p
    · subst e; dsimp only; rw [fu_same, hw]; exact if_neg hn
    · dsimp only; rw [fu_ne e]; dsimp only [secM]; simp only [List.mem_cons, e, false_or]
  · by_cases e : q = p
    · subst e; dsimp only; rw [fu_same, hf]; exact if_neg hn
    · dsimp only; rw [fu_ne e]; dsimp only [secM]; simp only [List.mem_cons, e, false_or]
set_option tactic.hygienic true in
theorem fu_id {α : Type} {f : Int → α} {p : Int} {v : α} (h : v = f p) : fu f p v = f := by
  funext q; unfold fu; split
  · rename_i e; rw [e, h]
  · rfl
noncomputable def seL (g : G) (k : Nat) : Ls := [(Str.ofString "self", agentV g), (Str.ofString "found", .obj (.l k))]
section
variable {n1 n : Nat} {σ : St} {g : G} {m : M} {p : Int} {k : Nat} {tot : List PV}
theorem sec_in {l : List Int} (hg : GOk g) (hx : ∀ p ∈ m.ps, (m.ax p).length ≤ 2) (hf : ∀ p ∈ m.ps, m.up p = true → 0 ≤ m.af p) (ht : tot.length ≤ 1000) (h : SeI g m k tot (p :: l) σ) :
    SQ (n + 56) M_LldpAgent_second.scope (fB M_LldpAgent_second.body) (setL (Str.ofString "port") (.int p) (seL g k)) σ fun x l2 s2 => x.goes = true ∧ Sub (seL g k) l2 ∧ SeI g m k tot l s2 := by
  have hps := h.sub p (List.mem_cons_self ..)
  have hnd := List.nodup_cons.mp h.nd
  obtain ⟨acc, h6, h7⟩ := h.fd
  have e1 : (secM g m (p :: l)).aw p = m.aw p := if_pos (List.mem_cons_self ..)
  have e2 : (secM g m (p :: l)).af p = m.af p := if_pos (List.mem_cons_self ..)
  have h1 := h.hp.ports
  have h2 := h.hp.port p hps
  have h3 := vat_map (f := fun q => .obj (.i (m.pl q))) hps
  rw [e1, e2] at h2
  dsimp only [secM] at h1 h2
  have hacc : acc.length ≤ 1000000 := by
    have := congrArg List.length h7
    rw [List.length_append] at this; lia
  rw [secA_cons] at h7
  have sub' : ∀ q ∈ l, q ∈ m.ps := fun q hq => h.sub q (List.mem_cons_of_mem _ hq)
  have hw : ∀ v w, Sub (seL g k) (setL (Str.ofString "row") v (setL (Str.ofString "port") w (seL g k))) := fun v w => Sub.cons rfl (Sub.cons rfl Sub.nil)
  refine qA rfl rfl ?_; refine rSub ?_; refine rP rfl ?_; refine rP rfl ?_; refine ⟨_, subDi (by assumption) (by assumption), ?_⟩; refine qI' ?_; refine tN ?_; refine tV rfl ?_; refine rAttr rfl ?_; refine rP rfl ?_; refine ⟨_, (attrO (by assumption)).trans rfl, ?_⟩; refine ⟨_, rfl, ?_⟩
  refine ⟨fun e => qCn ⟨rfl, hw _ _, ?_⟩, fun e => q0 ?_⟩
  · have hu : m.up p = false := by cases c : m.up p <;> rw [c] at e <;> first | rfl | cases e
    have hs : secOn m p = false := by unfold secOn; rw [hu]; rfl
    rw [hs, if_neg (by simp), List.nil_append] at h7
    have hX := h.hp.rowEq (aw := fu (secM g m (p :: l)).aw p (m.aw p)) (af := fu (secM g m (p :: l)).af p (m.af p)) (fun q _ => by rw [fu_id e1.symm]) (fun q _ => by rw [fu_id e2.symm])
    exact ⟨secM_step hnd.1 (by rw [hu]; rfl) (by rw [hu]; rfl) hX, ⟨acc, h6, h7⟩, h.k1, h.k2, h.k3, hnd.2, sub'⟩
  · have hu : m.up p = true := by cases c : m.up p <;> rw [c] at e <;> first | rfl | cases e
    refine qI' ?_; refine tC ?_; refine rAttr rfl ?_; refine rP rfl ?_; refine ⟨_, (attrO (by assumption)).trans rfl, ?_⟩; refine rP rfl ?_; refine ⟨_, rfl, ?_⟩
    refine ⟨fun e => ?_, fun e => q0 ?_⟩
    · have hw0 : 0 < m.aw p := of_decide_eq_true e
      have hs : secOn m p = false := by unfold secOn; rw [hu, decide_eq_true hw0]; rfl
      rw [hs, if_neg (by simp), List.nil_append] at h7
      refine qAA rfl ?_; refine rBin ?_; refine rAttr rfl ?_; refine rP rfl ?_; refine ⟨_, (attrO (by assumption)).trans rfl, ?_⟩; refine rP rfl ?_; refine ⟨_, rfl, ?_⟩; refine rP rfl ?_; refine ⟨_, sWait (by assumption), ?_⟩; refine qCn ?_; refine ⟨rfl, ?_⟩
      have hX := h.hp.setRow hps (m.aw p - 1) (m.af p)
      rw [show (secM g m (p :: l)).up p = m.up p from rfl] at hX
      exact ⟨hw _ _, secM_step hnd.1 (by rw [if_pos hu]; unfold tickW; rw [if_pos hw0]) (by rw [if_pos hu]; unfold tickF; rw [if_pos hw0]) hX, ⟨acc, (set_ne li).trans h6, h7⟩, h.k1, h.k2, h.k3, hnd.2, sub'⟩
    · have hw0 : ¬ 0 < m.aw p := of_decide_eq_false e
      have hs : secOn m p = true := by unfold secOn; rw [hu, decide_eq_false hw0]; rfl
      rw [hs, if_pos rfl, ← List.append_assoc] at h7
      refine qX rfl ?_; refine rMb rfl (by decide) rfl ?_; refine rP rfl ?_; refine ⟨_, MkR.append (by assumption), ?_⟩; refine sC ?_; refine rTup ?_; refine sC ?_; refine rP rfl ?_; refine sC ?_; refine rMe rfl (by decide) rfl ?_; refine rP rfl ?_; refine ⟨_, MkR.inst rfl rfl, ?_⟩; refine sC ?_; refine rAttr rfl ?_; refine rP rfl ?_; refine ⟨_, (attrO (by assumption)).trans rfl, ?_⟩; refine sP rfl ?_; refine ⟨Nat.le_of_ble_eq_true rfl, ?_⟩
      refine frame_of_ok (48 + p).toNat.toUInt8 (m.ax p) (held g) (hx p hps) (hg.held.1) (by have := hg.held.2; lia) fun σ1 hx1 => ?_
      have g6 := (hx1.2 (.l k) h.k3).trans h6
      have g2 := (hx1.2 (.i (m.pl p)) (h.hp.plt p hps)).trans h2
      clear h6 h2 h1
      refine sP rfl ?_; refine ⟨Nat.le_of_ble_eq_true rfl, ?_⟩; refine ⟨Nat.le_of_ble_eq_true rfl, ?_⟩; refine sP rfl ?_; refine ⟨Nat.le_of_ble_eq_true rfl, ?_⟩
      refine W_of (.append g6 hacc) ?_
      refine qX rfl ?_; refine rMe rfl (by decide) rfl ?_; refine rP rfl ?_; refine ⟨_, MkR.obj (by assumption) rfl rfl, ?_⟩; refine sP rfl ?_
      obtain ⟨σ2, f1, f2, f3⟩ := go_on_eq (n := n + 44) (σ := σ1.set (.l k) (some (.lst (acc ++ [.tup [.int p, frameV (48 + p).toNat.toUInt8 (m.ax p) (held g) 9]])))) (g := g) (p := p) (k := m.pl p) (l := m.nl p) (x := m.ax p) (u := m.up p) (w := m.aw p) (f := m.af p) (hf p hps hu) ((set_ne il).trans g2)
      refine W_of f1 ?_
      refine q0 ?_; refine ⟨rfl, ?_⟩
      have hX := (((h.hp.ext hx1).offL (σ' := σ1.set (.l k) (some (.lst (acc ++ [.tup [.int p, frameV (48 + p).toNat.toUInt8 (m.ax p) (held g) 9]])))) (Nat.ne_of_lt h.k1) (fun q hq => Nat.ne_of_lt (h.k2 q hq)) (fun q hq => set_ne hq) rfl).setRow hps (tickW g (m.aw p) (m.af p)) (tickF (m.aw p) (m.af p))).congr (σ' := σ2) (fun q => by rw [f3]; unfold tickW tickF; rw [if_neg hw0, if_neg hw0]; rfl) f2
      have gk := f3 (.l k)
      have gn : σ.n ≤ σ2.n := by rw [f2]; exact hx1.1
      rw [set_ne li, set_eq] at gk
      exact ⟨hw _ _, secM_step hnd.1 (by rw [if_pos hu]) (by rw [if_pos hu]) hX, ⟨_, gk, h7⟩, h.k1, h.k2, Nat.lt_of_lt_of_le h.k3 gn, hnd.2, sub'⟩
theorem second_ok {Q : PV × St → Prop} (hg : GOk g) (h : Hp g m σ) (hps : OkP m.ps) (hx : ∀ p ∈ m.ps, (m.ax p).length ≤ 2) (hf : ∀ p ∈ m.ps, m.up p = true → 0 ≤ m.af p) (hQ : ∀ σ', Hp g (secM g m []) σ' → Q (.lst (secA g m m.ps), σ')) : W (callF tbl (n + 60) M_LldpAgent_second [agentV g] σ) Q := by
  have h1 := h.ports
  have hl : (secA g m m.ps).length ≤ 3 := by unfold secA; rw [List.length_map]; exact Nat.le_trans (List.length_filter_le _ _) hps.len
  have o1 := h.o1
  have o2 := h.o2
  have o3 := h.o3
  have o4 := h.o4
  have o5 := h.o5
  refine rC rfl (qA rfl rfl (rLn (s0 ?_)))
  refine qFo rfl ?_; refine iE' ?_; refine rSo rfl ?_; refine sP rfl ?_
  refine ⟨_, _, rfl, soPorts hps (by assumption), ?_⟩
  refine ⟨_, _, rfl, ?_⟩
  refine W_loopC (L := seL g σ.n) (I := SeI g m σ.n (secA g m m.ps)) rfl (fun p l σ hi => sec_in hg hx hf (by lia) hi) (fun σ' hi => ?_) _ _ ?_
  · obtain ⟨acc, f1, f2⟩ := hi.fd
    have f3 : secA g m [] = [] := rfl
    rw [f3, List.append_nil] at f2
    subst f2
    exact qRF (rP rfl ⟨_, _, rfl, f1, hQ _ (hi.hp.offL (Nat.ne_of_lt hi.k1) (fun q hq => Nat.ne_of_lt (hi.k2 q hq)) (fun q hq => drop_ne hq) rfl)⟩)
  · have hx : Ext0 σ (σ.new (.l σ.n) (.lst [])) := ⟨Nat.le_succ _, fun q hq => by
      have e : q ≠ .l σ.n := fun e => by rw [e] at hq; exact absurd hq (Nat.lt_irrefl _)
      exact new_ne e⟩
    exact ⟨(h.rowEq (aw := (secM g m m.ps).aw) (af := (secM g m m.ps).af) (fun q hq => if_pos hq) (fun q hq => if_pos hq)).ext hx, ⟨[], new_eq, rfl⟩, by lia, fun q hq => (h.clt q hq).2, Nat.lt_succ_self _, hps.nd, fun q hq => hq⟩
end

noncomputable def sntM (g : G) (m : M) (l : List Int) : M := { m with
  cw := fun q => if q ∈ l then m.cw q else tickW g (m.cw q) (m.cf q)
  cf := fun q => if q ∈ l then m.cf q else tickF (m.cw q) (m.cf q) }
noncomputable def sntA (m : M) (l : List Int) : List Int := l.filter fun p => !decide (0 < m.cw p)
theorem Hp.clkEq {g : G} {m : M} {σ : St} (h : Hp g m σ) {cw cf : Int → Int} (e1 : ∀ p ∈ m.ord, cw p = m.cw p) (e2 : ∀ p ∈ m.ord, cf p = m.cf p) : Hp g { m with cw := cw, cf := cf } σ where
  src := h.src
  ports := h.ports
  port := h.port
  nbr := h.nbr
  scene := h.scene
  words := h.words
  clocks := h.clocks
  clock := fun p hp => by dsimp only; rw [e1 p hp, e2 p hp]; exact h.clock p hp
  o1 := h.o1
  o2 := h.o2
  o3 := h.o3
  o4 := h.o4
  o5 := h.o5
  plt := h.plt
  pli := h.pli
  nlt := h.nlt
  nli := h.nli
  clt := h.clt
  cli := h.cli
structure SnI (g : G) (m : M) (k : Nat) (tot : List Int) (l : List Int) (σ : St) : Prop where
  hp : Hp g (sntM g m l) σ
  fd : ∃ acc : List Int, σ.H (.l k) = some (.lst (acc.map PV.int)) ∧ acc ++ sntA m l = tot
  k1 : g.s < k
  k2 : ∀ p ∈ m.ord, m.cl p < k
  k3 : k < σ.n
  nd : l.Nodup
  sub : ∀ p ∈ l, p ∈ m.ord
theorem sntA_cons {m : M} {p : Int} {l : List Int} : sntA m (p :: l) = (if 0 < m.cw p then [] else [p]) ++ sntA m l := by
  unfold sntA
  rw [List.filter_cons]
  by_cases h : 0 < m.cw p
  · simp [h]
  · simp [h]
theorem sntM_step {g : G} {m : M} {p : Int} {l : List Int} {σ : St} {w f : Int} (hn : p ∉ l) (hw : w = tickW g (m.cw p) (m.cf p)) (hf : f = tickF (m.cw p) (m.cf p))
    (h : Hp g { sntM g m (p :: l) with cw := fu (sntM g m (p :: l)).cw p w, cf := fu (sntM g m (p :: l)).cf p f } σ) : Hp g (sntM g m l) σ := by
  refine h.clkEq (cw := (sntM g m l).cw) (cf := (sntM g m l).cf) (fun q hq => ?_) (fun q hq => ?_)
  · by_cases e : q = p
    · subst e; dsimp only; rw [fu_same, hw]; exact if_neg hn
    · dsimp only; rw [fu_ne e]; dsimp only [sntM]; simp only [List.mem_cons, e, false_or]
  · by_cases e : q = p
    · subst e; dsimp only; rw [fu_same, hf]; exact if_neg hn
    · dsimp only; rw [fu_ne e]; dsimp only [sntM]; simp only [List.mem_cons, e, false_or]
noncomputable def snL (g : G) (k : Nat) : Ls := [(Str.ofString "clocks", .obj (.d g.kC)), (Str.ofString "times", timesG g), (Str.ofString "found", .obj (.l k))]
section
variable {n1 n : Nat} {σ : St} {g : G} {m : M} {p : Int} {k : Nat} {tot : List Int}
theorem snt_in {l : List Int} (ht : tot.length ≤ 1000) (h : SnI g m k tot (p :: l) σ) :
    SQ (n + 18) F_law_sent.scope (fB F_law_sent.body) (setL (Str.ofString "port") (.int p) (snL g k)) σ fun x l2 s2 => x.goes = true ∧ Sub (snL g k) l2 ∧ SnI g m k tot l s2 := by
  have hps := h.sub p (List.mem_cons_self ..)
  have hnd := List.nodup_cons.mp h.nd
  obtain ⟨acc, h6, h7⟩ := h.fd
  have e1 : (sntM g m (p :: l)).cw p = m.cw p := if_pos (List.mem_cons_self ..)
  have e2 : (sntM g m (p :: l)).cf p = m.cf p := if_pos (List.mem_cons_self ..)
  have h1 := h.hp.clocks
  have h2 := h.hp.clock p hps
  have h3 := vat_map (f := fun q => .obj (.l (m.cl q))) hps
  rw [e1, e2] at h2
  dsimp only [sntM] at h1 h2
  have hacc : (acc.map PV.int).length ≤ 1000000 := by
    have := congrArg List.length h7
    rw [List.length_append] at this; rw [List.length_map]; lia
  have hkc : m.cl p ≠ k := Nat.ne_of_lt (h.k2 p hps)
  have hkc' : Loc.l (m.cl p) ≠ Loc.l k := lne hkc
  have hkc2 : Loc.l k ≠ Loc.l (m.cl p) := lne (Ne.symm hkc)
  rw [sntA_cons] at h7
  have sub' : ∀ q ∈ l, q ∈ m.ord := fun q hq => h.sub q (List.mem_cons_of_mem _ hq)
  have hw : ∀ v w, Sub (snL g k) (setL (Str.ofString "clock") v (setL (Str.ofString "port") w (snL g k))) := fun v w => Sub.cons rfl (Sub.cons rfl (Sub.cons rfl Sub.nil))
  refine qA rfl rfl ?_; refine rSub ?_; refine rP rfl ?_; refine rP rfl ?_; refine ⟨_, subDi (by assumption) (by assumption), ?_⟩; refine qI' ?_; refine tC ?_; refine rSub ?_; refine rP rfl ?_; refine rP rfl ?_; refine ⟨_, subL0 (by assumption), ?_⟩; refine rP rfl ?_; refine ⟨_, rfl, ?_⟩
  refine ⟨fun e => ?_, fun e => q0 ?_⟩
  · have h0 : 0 < m.cw p := of_decide_eq_true e
    rw [if_pos h0, List.nil_append] at h7
    refine qAS rfl ?_; refine rBin ?_; refine rSub ?_; refine rP rfl ?_; refine rP rfl ?_; refine ⟨_, subL0 (by assumption), ?_⟩; refine rP rfl ?_; refine ⟨_, rfl, ?_⟩; refine rP rfl ?_; refine rP rfl ?_; refine ⟨_, stoL0 (by assumption), ?_⟩; refine qCn ?_; refine ⟨rfl, ?_⟩
    have hX := h.hp.setClock hps (m.cw p - 1) (m.cf p)
    exact ⟨hw _ _, sntM_step hnd.1 (by unfold tickW; rw [if_pos h0]) (by unfold tickF; rw [if_pos h0]) hX, ⟨acc, (set_ne hkc2).trans h6, h7⟩, h.k1, h.k2, h.k3, hnd.2, sub'⟩
  · have h0 : ¬ 0 < m.cw p := of_decide_eq_false e
    rw [if_neg h0, ← List.append_assoc] at h7
    refine qX rfl ?_; refine rMb rfl (by decide) rfl ?_; refine rP rfl ?_; refine ⟨_, MkR.append (by assumption), ?_⟩; refine sP rfl ?_
    refine W_of (.append h6 hacc) ?_
    refine qAS rfl ?_; refine rBi rfl rfl ?_; refine sC ?_; refine rP rfl ?_; refine sC ?_; refine rBin ?_; refine rSub ?_; refine rP rfl ?_; refine rP rfl ?_; refine ⟨_, subL1 ((set_ne (by assumption)).trans (by assumption)), ?_⟩; refine rP rfl ?_; refine ⟨_, rfl, ?_⟩; refine sP rfl ?_; refine ⟨Nat.le_of_ble_eq_true rfl, ?_⟩; refine ⟨Nat.le_of_ble_eq_true rfl, ?_⟩; refine ⟨_, rfl, ?_⟩; refine rP rfl ?_; refine rP rfl ?_; refine ⟨_, stoL1 ((set_ne (by assumption)).trans (by assumption)), ?_⟩; refine qAS rfl ?_; refine rBin ?_; refine rIf' ?_; refine tC ?_; refine rSub ?_; refine rP rfl ?_; refine rP rfl ?_; refine ⟨_, subL1 set_eq, ?_⟩; refine rP rfl ?_; refine ⟨_, rfl, ?_⟩
    have hv : (if m.cf p - 1 > 0 then m.cf p - 1 else 0) = max 0 (m.cf p - 1) := by lia
    have fin : ∀ (v : PV) (w f : Int), w = tickW g (m.cw p) (m.cf p) → f = tickF (m.cw p) (m.cf p) → SnI g m k tot l (((σ.set (.l k) (some (.lst (acc.map PV.int ++ [.int p])))).set (.l (m.cl p)) (some (.lst [.int (m.cw p), v]))).set (.l (m.cl p)) (some (.lst [.int w, .int f]))) := by
      intro v w f q1 q2
      have hX := (h.hp.offL (σ' := σ.set (.l k) (some (.lst (acc.map PV.int ++ [.int p])))) (Nat.ne_of_lt h.k1) (fun q hq => Nat.ne_of_lt (h.k2 q hq)) (fun q hq => set_ne hq) rfl).setClock hps w f
      exact ⟨sntM_step hnd.1 q1 q2 (hX.congr (fun q => ss_H) rfl), ⟨acc ++ [p], (set_ne hkc2).trans ((set_ne hkc2).trans (set_eq.trans (by rw [List.map_append]; rfl))), h7⟩, h.k1, h.k2, h.k3, hnd.2, sub'⟩
    refine ⟨fun e => ?_, fun e => ?_⟩
    · have hf : (if m.cf p - 1 > 0 then m.cf p - 1 else 0) > 0 := of_decide_eq_true e
      refine rP rfl ?_; refine rP rfl ?_; refine ⟨_, rfl, ?_⟩; refine rP rfl ?_; refine rP rfl ?_; refine ⟨_, stoL0 set_eq, ?_⟩; refine q0 ?_; refine ⟨rfl, ?_⟩
      refine ⟨hw _ _, fin _ 0 _ ?_ ?_⟩
      · unfold tickW; rw [if_neg h0, ← hv, if_pos hf]; rfl
      · unfold tickF; rw [if_neg h0]; exact hv
    · have hf : ¬ (if m.cf p - 1 > 0 then m.cf p - 1 else 0) > 0 := of_decide_eq_false e
      refine rP rfl ?_; refine rP rfl ?_; refine ⟨_, rfl, ?_⟩; refine rP rfl ?_; refine rP rfl ?_; refine ⟨_, stoL0 set_eq, ?_⟩; refine q0 ?_; refine ⟨rfl, ?_⟩
      refine ⟨hw _ _, fin _ (g.a - 1) _ ?_ ?_⟩
      · unfold tickW; rw [if_neg h0, ← hv, if_neg hf]
      · unfold tickF; rw [if_neg h0]; exact hv
theorem sent_ok {Q : PV × St → Prop} (h : Hp g m σ) (hl : m.ord.length ≤ 3) (hnd : m.ord.Nodup) (hQ : ∀ σ', Hp g (sntM g m []) σ' → Q (.lst ((sntA m (srt id m.ord)).map PV.int), σ')) : W (callF tbl (n + 20) F_law_sent [.obj (.d g.kC), timesG g] σ) Q := by
  have h1 := h.clocks
  have hl' : (sntA m (srt id m.ord)).length ≤ 3 := by unfold sntA; refine Nat.le_trans (List.length_filter_le _ _) ?_; rw [srt_len]; exact hl
  have o1 := h.o1
  have o2 := h.o2
  have o3 := h.o3
  have o4 := h.o4
  have o5 := h.o5
  have hso : ∀ σ' : St, σ'.H (.d g.kC) = some (.di (m.ord.map fun p => (p, .obj (.l (m.cl p))))) → sortv σ' (.obj (.d g.kC)) = some (.lst ((srt id m.ord).map PV.int)) := fun σ' h => by
    rw [soO h]
    show (if sortKind ((m.ord.map fun p => ((p, PV.obj (.l (m.cl p))) : Int × PV)).map fun e => PV.int e.1) then _ else _) = _
    rw [List.map_map]
    exact sort_ints hl hnd
  refine rC rfl (qA rfl rfl (rLn (s0 ?_)))
  refine qFo rfl ?_; refine iE' ?_; refine rSo rfl ?_; refine sP rfl ?_
  refine ⟨_, _, rfl, hso _ (by assumption), ?_⟩
  refine ⟨_, _, rfl, ?_⟩
  refine W_loopC (L := snL g σ.n) (I := SnI g m σ.n (sntA m (srt id m.ord))) rfl (fun p l σ hi => snt_in (by lia) hi) (fun σ' hi => ?_) _ _ ?_
  · obtain ⟨acc, f1, f2⟩ := hi.fd
    have f3 : sntA m [] = [] := rfl
    rw [f3, List.append_nil] at f2
    subst f2
    exact qRF (rP rfl ⟨_, _, rfl, f1, hQ _ (hi.hp.offL (Nat.ne_of_lt hi.k1) (fun q hq => Nat.ne_of_lt (hi.k2 q hq)) (fun q hq => drop_ne hq) rfl)⟩)
  · have hx : Ext0 σ (σ.new (.l σ.n) (.lst [])) := ⟨Nat.le_succ _, fun q hq => by
      have e : q ≠ .l σ.n := fun e => by rw [e] at hq; exact absurd hq (Nat.lt_irrefl _)
      exact new_ne e⟩
    exact ⟨(h.clkEq (cw := (sntM g m (srt id m.ord)).cw) (cf := (sntM g m (srt id m.ord)).cf) (fun q hq => if_pos (srt_mem.mpr hq)) (fun q hq => if_pos (srt_mem.mpr hq))).ext hx, ⟨[], new_eq, rfl⟩, by lia, fun q hq => (h.clt q hq).2, Nat.lt_succ_self _, ((srt_lt hnd).imp fun h => Int.ne_of_lt h), fun q hq => srt_mem.mp hq⟩
end

noncomputable def addP (l : List Int) (p : Int) : List Int := if p ∈ l then l else l ++ [p]
theorem sto_map {f : Int → PV} {l : List Int} {p : Int} {v : PV} : sto (l.map fun q => (q, f q)) p v = (addP l p).map fun q => (q, fu f p v q) := by
  unfold sto addP
  by_cases h : p ∈ l
  · rw [vat_map h, if_pos h, if_pos (show (some (f p)).isSome = true from rfl), List.map_map]
    refine List.map_congr_left fun q _ => ?_
    show (if q = p then (q, v) else (q, f q)) = (q, if q = p then v else f q)
    split <;> rfl
  · rw [vat_map_none h, if_neg h, if_neg (by simp), List.map_append]
    congr 1
    · refine List.map_congr_left fun q hq => ?_
      rw [fu_ne (fun e => by subst e; exact h hq)]
    · show [(p, v)] = [(p, fu f p v p)]
      rw [fu_same]
theorem wou_map {f : Int → PV} {l : List Int} {p : Int} : wou (l.map fun q => (q, f q)) p = (l.filter fun q => decide (q ≠ p)).map fun q => (q, f q) := by
  unfold wou
  rw [List.filter_map]
  rfl
theorem fu_obj {f : Int → Nat} {p : Int} {k : Nat} {l : List Int} : (l.map fun q => ((q, fu (fun q => PV.obj (.l (f q))) p (PV.obj (.l k)) q) : Int × PV)) = l.map fun q => (q, PV.obj (.l (fu f p k q))) := by
  refine List.map_congr_left fun q _ => ?_
  unfold fu; split <;> rfl
noncomputable def hurM (m : M) (p : Int) (k : Nat) (f : Int) : M := { m with ord := addP m.ord p, cl := fu m.cl p k, cw := fu m.cw p 0, cf := fu m.cf p f }
section
variable {n1 n : Nat} {σ : St} {g : G} {m : M} {p : Int} {k : Nat} {Q : PV × St → Prop}
theorem law_hurry_ok {f : Int} (h : Hp g m σ) (hl : m.ord.length ≤ 3) (hQ : ∀ σ', Hp g (hurM m p σ.n f) σ' → Q (.none, σ')) : W (callF tbl (n + 10) F_law_hurry [.obj (.d g.kC), .int p, .int f] σ) Q := by
  have h1 := h.clocks
  have h3 := h.newClock (p := p) (addP m.ord p) (fun q hq => by unfold addP at hq; split at hq; exact .inr hq; simpa [or_comm] using hq) 0 f
  have h4 := (sto_map (f := fun q => .obj (.l (m.cl q))) (l := m.ord) (p := p) (v := .obj (.l σ.n))).trans fu_obj
  refine rC rfl (qAS rfl (rLn ?_))
  refine sP rfl ?_; refine rP rfl ?_; refine rP rfl ?_
  refine ⟨_, stoDi (by assumption) (by rw [List.length_map]; lia), ?_⟩
  rw [h4]
  refine q0 ?_
  exact hQ _ h3
theorem law_one_ok {l : List PV} (h : Hp g m σ) (h1 : 1 ≤ l.length) (h2 : l.length ≤ 10) (hQ : ∀ v ∈ l, ∀ σ', Hp g m σ' → Q (v, σ')) : W (callF tbl (n + 18) F_law_one [.obj (.l g.s), .lst l] σ) Q := by
  have h3 : l.length ≤ 16777216 := by lia
  refine rC rfl ?_
  refine qR ?_; refine rSub ?_; refine rP rfl ?_; refine rCall rfl rfl ?_; refine sC ?_; refine rP rfl ?_; refine sC ?_; refine rBi rfl rfl ?_; refine sP rfl ?_; refine ⟨_, lenL (by assumption), ?_⟩; refine sP rfl ?_; refine ⟨Nat.le_of_ble_eq_true rfl, ?_⟩; refine ⟨Nat.le_of_ble_eq_true rfl, ?_⟩
  refine take_ok h (by lia) (by lia) fun d σ' d0 d1 h' => ?_
  have h6 : d.toNat < l.length := by lia
  have h7 : subv σ' (.lst l) (.int d) = some l[d.toNat] := by
    show (if _ then _ else _) = _
    rw [if_pos ⟨d0, by lia⟩]; exact List.getElem?_eq_getElem h6
  refine ⟨_, h7, ?_⟩
  exact hQ _ (List.getElem_mem h6) σ' h'
theorem law_call_ok {w s now : Int} {t : List UInt8} (hw : 0 ≤ w ∧ w < 5) (ht : t.length ≤ 2) (h0 : 0 ≤ s) (h1 : s < 65536) (hQ : ∀ σ1, Ext0 σ σ1 → W (callF tbl (n + 58) M_LldpAgent_heard [agentV g, .int p, frameV (65 + w).toNat.toUInt8 t s 1, .int now] σ1) Q) : W (callF tbl (n + 61) F_law_call [agentV g, .int p, .int w, .bytes t.toArray, .int s, .int now] σ) Q := by
  refine rC rfl ?_
  refine qA rfl rfl ?_; refine rCall rfl rfl ?_; refine sC ?_; refine rCall rfl rfl ?_; refine sC ?_; refine rBi rfl rfl ?_; refine sP rfl ?_
  refine ⟨_, byB1 (by lia) (by lia), ?_⟩
  refine sP rfl ?_; refine ⟨Nat.le_of_ble_eq_true rfl, ?_⟩
  refine W_of (law_words_ok [(65 + w).toNat.toUInt8] t s) ?_
  refine sP rfl ?_; refine ⟨Nat.le_of_ble_eq_true rfl, ?_⟩
  refine W_of (pack_rows_ok (65 + w).toNat.toUInt8 t s ht h0 h1) ?_
  refine qR ?_; refine rMe rfl (by decide) rfl ?_; refine rP rfl ?_; refine ⟨_, MkR.inst rfl rfl, ?_⟩; refine sC ?_; refine rP rfl ?_; refine sC ?_; refine rInst rfl rfl ?_; refine sP rfl ?_
  refine frame_new fun σ1 hx => ?_
  refine sP rfl ?_; refine ⟨Nat.le_of_ble_eq_true rfl, ?_⟩; refine ⟨Nat.le_of_ble_eq_true rfl, ?_⟩
  exact hQ σ1 hx
end

noncomputable def isM (p w : Int) (r : R) : Bool := decide (r.port = p) && decide (r.who = w)
noncomputable def dueO (own : List R) (most p w : Int) (t : List UInt8) (s now : Int) : String × List R :=
  let mine := own.filter (isM p w)
  let oth := own.filter fun r => !isM p w r
  if s = 0 then (if mine = [] then "unknown" else "gone", oth)
  else if mine = [] ∧ most ≤ ((own.filter fun r => decide (r.port = p)).length : Int) then ("full", own)
  else (match mine with
    | [] => "new"
    | r :: _ => if r.txt = t ∧ r.sec = s then "same" else "changed", oth ++ [⟨p, w, t, s, now + s⟩])
theorem deps_rows : ∀ l : List R, deps (l.map rowV) ≤ 1
  | [] => by decide
  | r :: l => by
    have := deps_rows l
    show max (dep (rowV r)) (deps (l.map rowV)) ≤ 1
    have e : dep (rowV r) = 1 := rfl
    lia
theorem iT {α : Type} {c : Bool} {x y : α} (h : c = true) : x = if c = true then x else y := by rw [h]; rfl
theorem iF {α : Type} {c : Bool} {x y : α} (h : c = false) : y = if c = true then x else y := by rw [h]; rfl
section
variable {n1 n : Nat} {σ : St} {g : G} {m : M} {p : Int} {k : Nat} {Q : PV × St → Prop}
theorem eqN {l : List R} : cmpc σ .Eq (.lst (l.map rowV)) (.lst []) = some l.isEmpty := by
  have h : dep (.lst (l.map rowV)) ≤ 100 := Nat.le_trans (Nat.succ_le_succ (deps_rows l)) (by decide)
  unfold cmpc
  rw [if_pos h]
  cases l <;> rfl
theorem neN {l : List R} : cmpc σ .NotEq (.lst (l.map rowV)) (.lst []) = some (!l.isEmpty) := by
  have h : dep (.lst (l.map rowV)) ≤ 100 := Nat.le_trans (Nat.succ_le_succ (deps_rows l)) (by decide)
  unfold cmpc
  rw [if_pos h]
  cases l <;> rfl
theorem law_names_ok {own : List R} (hw : ∀ r ∈ own, 0 ≤ r.who ∧ r.who < 5) (hn : OkN (own.filter fun r => decide (r.port = p))) : callF tbl (n + 18) F_law_names [.lst (own.map rowV), .int p] σ (.lst ((srt R.who (own.filter fun r => decide (r.port = p))).map fun r => nameV r.who), σ) := by
  refine W_eq (rC rfl ?_)
  refine qR ?_; refine rSo rfl ?_; refine sC ?_; refine rCo ?_; refine c1 rfl rfl ?_; refine iE' ?_; refine rP rfl ?_; refine ⟨_, _, rfl, ?_⟩
  refine W_compM (g := fun r => if decide (r.port = p) = true then [nameV r.who] else []) (fun r hr => ?_) ?_
  · refine u1 rfl rfl rfl (fun e => ?_) fun e => ⟨iF e, Sub.set rfl, rfl⟩
    refine rTup ?_; refine sC ?_; refine rTup ?_; refine sC ?_; refine rP rfl ?_; refine sC ?_; refine rBi rfl rfl ?_; refine sP rfl ?_
    have := hw r hr
    refine ⟨_, byB1 (i := 65 + r.who) (by lia) (by lia), ?_⟩
    refine sP rfl ?_; refine ⟨Nat.le_of_ble_eq_true rfl, ?_⟩; refine ⟨Nat.le_of_ble_eq_true rfl, ?_⟩; refine sP rfl ?_; refine ⟨Nat.le_of_ble_eq_true rfl, ?_⟩
    exact ⟨iT e, Sub.set rfl, rfl⟩
  · rw [flat_filter]
    refine ⟨by rw [List.length_map]; have := hn.len; lia, ?_⟩
    refine sP rfl ?_; refine ⟨Nat.le_of_ble_eq_true rfl, ?_⟩
    exact ⟨_, _, rfl, soL.trans (sort_names hn), rfl⟩
theorem law_due_ok {own : List R} {most w s now : Int} {t : List UInt8} (hl : own.length ≤ 1000) : callF tbl (n + 18) F_law_due [.lst (own.map rowV), .int most, .int p, .int w, .bytes t.toArray, .int s, .int now] σ (.lst [strE (dueO own most p w t s now).1, .lst ((dueO own most p w t s now).2.map rowV)], σ) := by
  have l1 : ∀ c : R → Bool, ((own.filter c).map rowV).length ≤ 1000000 := fun c => by rw [List.length_map]; exact Nat.le_trans (List.length_filter_le _ _) (by lia)
  refine W_eq (rC rfl ?_)
  refine qAC rfl ?_; refine c1 rfl rfl ?_; refine iE' ?_; refine rP rfl ?_; refine ⟨_, _, rfl, ?_⟩
  refine W_compM (g := fun r => if isM p w r = true then [rowV r] else []) (fun r hr => ?_) ?_
  · have hc : (decide (r.port = p) && (decide (r.who = w) && true)) = isM p w r := by unfold isM; rw [Bool.and_true]
    refine u1 rfl rfl rfl (fun e => rP rfl ⟨iT (hc.symm.trans e), Sub.set rfl, rfl⟩) fun e => ⟨iF (hc.symm.trans e), Sub.set rfl, rfl⟩
  rw [flat_filter]
  refine ⟨l1 _, ?_⟩
  refine qAC rfl ?_; refine c1 rfl rfl ?_; refine iE' ?_; refine rP rfl ?_; refine ⟨_, _, rfl, ?_⟩
  refine W_compM (g := fun r => if (!isM p w r) = true then [rowV r] else []) (fun r hr => ?_) ?_
  · have hc : (!(decide (r.port = p) && (decide (r.who = w) && true))) = !isM p w r := by unfold isM; rw [Bool.and_true]
    refine u1 rfl rfl rfl (fun e => rP rfl ⟨iT (hc.symm.trans e), Sub.set rfl, rfl⟩) fun e => ⟨iF (hc.symm.trans e), Sub.set rfl, rfl⟩
  rw [flat_filter]
  refine ⟨l1 _, ?_⟩
  have hoth : (own.filter fun r => !isM p w r).length ≤ 1000 := Nat.le_trans (List.length_filter_le _ _) hl
  unfold dueO
  generalize own.filter (isM p w) = mine
  generalize (own.filter fun r => !isM p w r) = oth at *
  refine qI' ?_; refine tP rfl ?_
  refine ⟨fun e => ?_, fun e => q0 ?_⟩
  · have hs : s = 0 := of_decide_eq_true e
    refine qR (rLst (sC (rIf' (tC (rP rfl (rP rfl ⟨_, neN, ?_⟩))))))
    dsimp only
    rw [if_pos hs]
    cases mine with
    | nil => refine ⟨fun e => (nomatch e), fun _ => ?_⟩; refine rP rfl ?_; refine sP rfl ?_; refine ⟨Nat.le_of_ble_eq_true rfl, ?_⟩; rfl
    | cons r mine => refine ⟨fun _ => ?_, fun e => (nomatch e)⟩; refine rP rfl ?_; refine sP rfl ?_; refine ⟨Nat.le_of_ble_eq_true rfl, ?_⟩; rfl
  · have hs : ¬ s = 0 := of_decide_eq_false e
    dsimp only
    rw [if_neg hs]
    refine qI' (tAnd (tC (rP rfl (rP rfl ⟨_, eqN, ?_⟩))))
    cases mine with
    | nil =>
      refine ⟨fun _ => ?_, fun e => (nomatch e)⟩
      refine tOne ?_; refine tC ?_; refine rBi rfl rfl ?_; refine sC ?_; refine rCo ?_; refine c1 rfl rfl ?_; refine iE' ?_; refine rP rfl ?_; refine ⟨_, _, rfl, ?_⟩
      refine W_compM (g := fun r => if decide (r.port = p) = true then [rowV r] else []) (fun r hr => ?_) ?_
      · exact u1 rfl rfl rfl (fun e => rP rfl ⟨iT e, Sub.set rfl, rfl⟩) fun e => ⟨iF e, Sub.set rfl, rfl⟩
      rw [flat_filter]
      refine ⟨l1 _, ?_⟩
      refine sP rfl ?_; refine ⟨Nat.le_of_ble_eq_true rfl, ?_⟩
      have l4 : ((own.filter fun r => decide (r.port = p)).map rowV).length ≤ 16777216 := Nat.le_trans (l1 _) (by decide)
      refine ⟨_, lenL l4, ?_⟩
      rw [List.length_map]
      refine rP rfl ?_; refine ⟨_, rfl, ?_⟩
      refine ⟨fun e => ?_, fun e => q0 ?_⟩
      · have hm : most ≤ ((own.filter fun r => decide (r.port = p)).length : Int) := of_decide_eq_true e
        rw [if_pos ⟨rfl, hm⟩]
        refine qRP rfl ?_
        rfl
      · have hm : ¬ most ≤ ((own.filter fun r => decide (r.port = p)).length : Int) := of_decide_eq_false e
        rw [if_neg fun x => hm x.2]
        refine qA rfl rfl (rIf' (tC (rP rfl (rP rfl ⟨_, eqN, ⟨fun _ => ?_, fun e => (nomatch e)⟩⟩))))
        refine rP rfl ?_; refine qR ?_; refine rLst ?_; refine sC ?_; refine rP rfl ?_; refine sC ?_; refine rBin ?_; refine rP rfl ?_; refine rP rfl ?_
        refine ⟨_, bApp (l := oth.map rowV) (m := [_]) (by rw [List.length_map]; show oth.length + 1 ≤ _; lia), ?_⟩
        refine sP rfl ?_; refine ⟨Nat.le_of_ble_eq_true rfl, ?_⟩; refine ⟨Nat.le_of_ble_eq_true rfl, ?_⟩
        rw [List.map_append]; rfl
    | cons r mine =>
      refine ⟨fun e => (nomatch e), fun _ => ⟨fun e => (nomatch e), fun _ => q0 ?_⟩⟩
      rw [if_neg fun x => nomatch x.1]
      refine qA rfl rfl (rIf' (tC (rP rfl (rP rfl ⟨_, eqN, ⟨fun e => (nomatch e), fun _ => rIf' (tP rfl ?_)⟩⟩))))
      have hA : (decide (r.txt.toArray = t.toArray) && (decide (r.sec = s) && true)) = decide (r.txt = t ∧ r.sec = s) := by simp
      refine ⟨fun e => ?_, fun e => ?_⟩
      · have he := of_decide_eq_true (hA.symm.trans e)
        refine rP rfl ?_; refine qR ?_; refine rLst ?_; refine sC ?_; refine rP rfl ?_; refine sC ?_; refine rBin ?_; refine rP rfl ?_; refine rP rfl ?_
        refine ⟨_, bApp (l := oth.map rowV) (m := [_]) (by rw [List.length_map]; show oth.length + 1 ≤ _; lia), ?_⟩
        refine sP rfl ?_; refine ⟨Nat.le_of_ble_eq_true rfl, ?_⟩; refine ⟨Nat.le_of_ble_eq_true rfl, ?_⟩
        rw [List.map_append]
        dsimp only
        rw [if_pos he]; rfl
      · have he := of_decide_eq_false (hA.symm.trans e)
        refine rP rfl ?_; refine qR ?_; refine rLst ?_; refine sC ?_; refine rP rfl ?_; refine sC ?_; refine rBin ?_; refine rP rfl ?_; refine rP rfl ?_
        refine ⟨_, bApp (l := oth.map rowV) (m := [_]) (by rw [List.length_map]; show oth.length + 1 ≤ _; lia), ?_⟩
        refine sP rfl ?_; refine ⟨Nat.le_of_ble_eq_true rfl, ?_⟩; refine ⟨Nat.le_of_ble_eq_true rfl, ?_⟩
        rw [List.map_append]
        dsimp only
        rw [if_neg he]; rfl
end

structure Inv (g : G) (m : M) (N : Nat) : Prop where
  psn : m.ps = [1, 2] ∨ m.ps = [1, 2, 3]
  wx : ∀ p ∈ m.ps, m.wx p = m.ax p
  wl : ∀ p ∈ m.ps, (m.wx p).length ≤ 2
  ordp : m.ord.Perm (m.ps.filter m.up)
  cw : ∀ p ∈ m.ord, m.aw p = m.cw p ∧ m.af p = m.cf p ∧ 0 ≤ m.cf p
  rows : ∀ r ∈ m.own, r.port ∈ m.ps ∧ 0 ≤ r.who ∧ r.who < 5
  uniq : m.own.Pairwise fun a b => ¬ (a.port = b.port ∧ a.who = b.who)
  nb : ∀ p ∈ m.ps, (m.nb p).Perm (m.own.filter fun r => decide (r.port = p))
  nbl : ∀ p ∈ m.ps, ((m.nb p).length : Int) ≤ g.most
  len : m.own.length ≤ N
section
variable {g : G} {m : M} {N : Nat} {p w s now : Int} {t : List UInt8}
theorem Inv.okP (h : Inv g m N) : OkP m.ps := by
  rcases h.psn with e | e <;> rw [e] <;> exact ⟨by decide, by decide⟩
theorem filt_dis (h : Inv g m N) : (m.own.filter fun r => decide (r.port = p)).Pairwise fun a b => a.who ≠ b.who := by
  rw [List.pairwise_filter]
  refine h.uniq.imp fun {a b} hab ha hb e => hab ⟨?_, e⟩
  simp only [decide_eq_true_eq] at ha hb
  rw [ha, hb]
theorem Inv.okN (h : Inv g m N) (hg : GOk g) (hp : p ∈ m.ps) : OkN (m.nb p) where
  len := by have := h.nbl p hp; have := hg.m2; lia
  dis := ((h.nb p hp).pairwise_iff (fun {a b} h => Ne.symm h)).mpr (filt_dis h)
  rng := fun r hr => (h.rows r (List.mem_filter.mp ((h.nb p hp).mem_iff.mp hr)).1).2
theorem Inv.okO (h : Inv g m N) (hg : GOk g) (hp : p ∈ m.ps) : OkN (m.own.filter fun r => decide (r.port = p)) where
  len := by rw [← (h.nb p hp).length_eq]; exact (h.okN hg hp).len
  dis := filt_dis h
  rng := fun r hr => (h.rows r (List.mem_filter.mp hr).1).2
theorem Inv.srt_eq (h : Inv g m N) (hp : p ∈ m.ps) : srt R.who (m.nb p) = srt R.who (m.own.filter fun r => decide (r.port = p)) :=
  srt_congr (((h.nb p hp).pairwise_iff (fun {a b} h => Ne.symm h)).mpr (filt_dis h)) (h.nb p hp)
theorem Inv.ordm (h : Inv g m N) : p ∈ m.ord ↔ p ∈ m.ps ∧ m.up p = true := by rw [h.ordp.mem_iff, List.mem_filter]
theorem Inv.ordl (h : Inv g m N) : m.ord.length ≤ 3 := by rw [h.ordp.length_eq]; exact Nat.le_trans (List.length_filter_le _ _) h.okP.len
theorem Inv.ordn (h : Inv g m N) : m.ord.Nodup := h.ordp.nodup_iff.mpr (h.okP.nd.filter _)
theorem Inv.ords (h : Inv g m N) : srt id m.ord = m.ps.filter m.up := srt_uniq (key := id) (h.okP.inc.filter _) h.ordp.symm
theorem Inv.le (h : Inv g m N) {N' : Nat} (hN : N ≤ N') : Inv g m N' := { h with len := Nat.le_trans h.len hN }
/-- what the agent knows of a neighbour and what the law knows -/
theorem Inv.find (h : Inv g m N) (hp : p ∈ m.ps) : ((m.nb p).find? fun x => decide (x.who = w)) = (m.own.filter (isM p w)).head? := by
  have hm : ∀ x, x ∈ m.own.filter (isM p w) ↔ x ∈ m.nb p ∧ x.who = w := by
    intro x
    rw [(h.nb p hp).mem_iff, List.mem_filter, List.mem_filter]
    unfold isM
    simp only [Bool.and_eq_true, decide_eq_true_eq, and_assoc]
  have hd : (m.nb p).Pairwise fun a b => a.who ≠ b.who := ((h.nb p hp).pairwise_iff (fun {a b} h => Ne.symm h)).mpr (filt_dis h)
  cases hf : (m.nb p).find? fun x => decide (x.who = w) with
  | none =>
    rw [List.find?_eq_none] at hf
    have : m.own.filter (isM p w) = [] := by
      rw [List.eq_nil_iff_forall_not_mem]
      intro x hx
      obtain ⟨h1, h2⟩ := (hm x).mp hx
      exact hf x h1 (by simpa using h2)
    rw [this]; rfl
  | some r =>
    have h1 := List.mem_of_find?_eq_some hf
    have h2 : r.who = w := by have := List.find?_some hf; simpa using this
    have h3 := (hm r).mpr ⟨h1, h2⟩
    cases he : m.own.filter (isM p w) with
    | nil => rw [he] at h3; cases h3
    | cons x l =>
      have h4 := (hm x).mp (by rw [he]; exact List.mem_cons_self ..)
      have : x = r := who_uniq hd h4.1 h1 (h4.2.trans h2.symm)
      rw [this]; rfl
theorem Inv.cnt (h : Inv g m N) (hp : p ∈ m.ps) : (m.own.filter fun r => decide (r.port = p)).length = (m.nb p).length := (h.nb p hp).length_eq.symm
theorem filt_other {l : List R} {q : Int} (e : q ≠ p) : (l.filter fun r => !isM p w r).filter (fun r => decide (r.port = q)) = l.filter fun r => decide (r.port = q) := by
  rw [List.filter_filter]
  refine List.filter_congr fun r _ => ?_
  unfold isM
  by_cases e1 : r.port = q
  · have : ¬ r.port = p := fun e2 => e (e1.symm.trans e2)
    simp [e1, e]
  · simp [e1]
theorem filt_same {l : List R} : (l.filter fun r => !isM p w r).filter (fun r => decide (r.port = p)) = (l.filter fun r => decide (r.port = p)).filter fun x => decide (x.who ≠ w) := by
  rw [List.filter_filter, List.filter_filter]
  refine List.filter_congr fun r _ => ?_
  unfold isM
  by_cases e1 : r.port = p
  · simp [e1]
  · simp [e1]
set_option tactic.hygienic true in
theorem stoR_perm {l : List R} {r : R} (hd : l.Pairwise fun a b => a.who ≠ b.who) : (stoR l r).Perm ((l.filter fun x => decide (x.who ≠ r.who)) ++ [r]) := by
  unfold stoR
  split
  · rename_i hs
    induction l with
    | nil => cases hs
    | cons a l ih =>
      rw [List.pairwise_cons] at hd
      rw [List.map_cons, List.filter_cons]
      by_cases e : a.who = r.who
      · have hno : ∀ x ∈ l, x.who ≠ r.who := fun x hx e1 => hd.1 x hx (e.trans e1.symm)
        have h1 : l.map (fun x => if x.who = r.who then r else x) = l := by
          conv => rhs; rw [← List.map_id l]
          exact List.map_congr_left fun x hx => if_neg (hno x hx)
        have h2 : l.filter (fun x => decide (x.who ≠ r.who)) = l := List.filter_eq_self.mpr fun x hx => by simpa using hno x hx
        rw [if_pos e, h1, if_neg (by simp [e]), h2]
        exact (List.perm_append_singleton r l).symm
      · rw [if_neg e, if_pos (by simp [e])]
        refine List.Perm.cons a (ih hd.2 ?_)
        rw [List.find?_cons] at hs
        simp only [e, decide_false] at hs
        exact hs
  · rename_i hs
    have h2 : l.filter (fun x => decide (x.who ≠ r.who)) = l := List.filter_eq_self.mpr fun x hx => by
      simp only [ne_eq, decide_not, Bool.not_eq_true', decide_eq_false_iff_not]
      intro e
      refine hs ?_
      rw [List.find?_isSome]
      exact ⟨x, hx, by simpa using e⟩
    rw [h2]
theorem isM_no {r : R} (h : (!isM p w r) = true) : ¬ (r.port = p ∧ r.who = w) := by
  unfold isM at h
  intro ⟨a, b⟩
  simp [a, b] at h
/-- a neighbour's row goes -/
theorem Inv.rm (h : Inv g m N) (hp : p ∈ m.ps) : Inv g { m with own := m.own.filter fun r => !isM p w r, nb := fu m.nb p ((m.nb p).filter fun x => decide (x.who ≠ w)) } N where
  psn := h.psn
  wx := h.wx
  wl := h.wl
  ordp := h.ordp
  cw := h.cw
  rows := fun r hr => h.rows r (List.mem_filter.mp hr).1
  uniq := h.uniq.filter _
  nb := fun q hq => by
    dsimp only
    by_cases e : q = p
    · subst e; rw [fu_same, filt_same]; exact (h.nb q hq).filter _
    · rw [fu_ne e, filt_other e]; exact h.nb q hq
  nbl := fun q hq => by
    dsimp only
    by_cases e : q = p
    · subst e; rw [fu_same]
      have := h.nbl q hq
      have := List.length_filter_le (fun x : R => decide (x.who ≠ w)) (m.nb q)
      lia
    · rw [fu_ne e]; exact h.nbl q hq
  len := Nat.le_trans (List.length_filter_le _ _) h.len
/-- a neighbour's row comes -/
theorem Inv.put (h : Inv g m N) (hg : GOk g) (hp : p ∈ m.ps) (hw : 0 ≤ w ∧ w < 5) {u : Int} (hl : ((stoR (m.nb p) ⟨p, w, t, s, u⟩).length : Int) ≤ g.most) : Inv g { m with own := (m.own.filter fun r => !isM p w r) ++ [⟨p, w, t, s, u⟩], nb := fu m.nb p (stoR (m.nb p) ⟨p, w, t, s, u⟩) } (N + 1) where
  psn := h.psn
  wx := h.wx
  wl := h.wl
  ordp := h.ordp
  cw := h.cw
  rows := fun r hr => by
    rcases List.mem_append.mp hr with hr | hr
    · exact h.rows r (List.mem_filter.mp hr).1
    · rw [List.mem_singleton] at hr; subst hr; exact ⟨hp, hw⟩
  uniq := by
    dsimp only
    rw [List.pairwise_append]
    refine ⟨h.uniq.filter _, List.pairwise_singleton _ _, fun a ha b hb => ?_⟩
    rw [List.mem_singleton] at hb
    subst hb
    exact isM_no (List.mem_filter.mp ha).2
  nb := fun q hq => by
    dsimp only
    rw [List.filter_append]
    by_cases e : q = p
    · subst e
      rw [fu_same, filt_same]
      have h1 := stoR_perm (r := ⟨q, w, t, s, u⟩) (h.okN hg hq).dis
      refine h1.trans (((h.nb q hq).filter _).append ?_)
      simp
    · rw [fu_ne e, filt_other e]
      have : ([⟨p, w, t, s, u⟩] : List R).filter (fun r => decide (r.port = q)) = [] := by simp [Ne.symm e]
      rw [this, List.append_nil]; exact h.nb q hq
  nbl := fun q hq => by
    dsimp only
    by_cases e : q = p
    · subst e; rw [fu_same]; exact hl
    · rw [fu_ne e]; exact h.nbl q hq
  len := by
    have := List.length_filter_le (fun r => !isM p w r) m.own
    have := h.len
    dsimp only
    rw [List.length_append, List.length_singleton]; lia
theorem filter_add {l : List Int} (hd : l.Nodup) (hp : p ∈ l) {c : Int → Bool} (hc : c p = false) : (l.filter (fu c p true)).Perm (l.filter c ++ [p]) := by
  induction l with
  | nil => cases hp
  | cons a l ih =>
    rw [List.nodup_cons] at hd
    rw [List.filter_cons, List.filter_cons]
    by_cases e : a = p
    · subst e
      rw [fu_same, if_pos rfl, hc, if_neg (by simp)]
      have : l.filter (fu c a true) = l.filter c := List.filter_congr fun x hx => fu_ne fun e => hd.1 (e ▸ hx)
      rw [this]
      exact (List.perm_append_singleton a _).symm
    · have hp' : p ∈ l := by simpa [Ne.symm e] using hp
      rw [fu_ne e]
      split
      · exact List.Perm.cons a (ih hd.2 hp')
      · exact ih hd.2 hp'
theorem addP_in (h : p ∈ m.ord) : addP m.ord p = m.ord := if_pos h
/-- a port's clock is hurried -/
theorem Inv.hur (h : Inv g m N) (hp : p ∈ m.ord) {x : List UInt8} (hx : m.wx p = x) {f : Int} (hf : 0 ≤ f) (k : Nat) : Inv g (hurM (m.port p x true 0 f) p k f) N where
  psn := h.psn
  wx := fun q hq => by
    show m.wx q = fu m.ax p x q
    by_cases e : q = p
    · subst e; rw [fu_same, hx]
    · rw [fu_ne e]; exact h.wx q hq
  wl := h.wl
  ordp := by
    show (addP m.ord p).Perm (m.ps.filter (fu m.up p true))
    rw [addP_in hp, fu_id ((h.ordm.mp hp).2).symm]
    exact h.ordp
  cw := fun q hq => by
    have hq : q ∈ addP m.ord p := hq
    rw [addP_in hp] at hq
    show fu m.aw p 0 q = fu m.cw p 0 q ∧ fu m.af p f q = fu m.cf p f q ∧ 0 ≤ fu m.cf p f q
    by_cases e : q = p
    · subst e; rw [fu_same, fu_same, fu_same, fu_same]; exact ⟨rfl, rfl, hf⟩
    · rw [fu_ne e, fu_ne e, fu_ne e, fu_ne e]; exact h.cw q hq
  rows := h.rows
  uniq := h.uniq
  nb := h.nb
  nbl := h.nbl
  len := h.len
/-- a port goes up -/
theorem Inv.goUp (h : Inv g m N) (hp : p ∈ m.ps) (hu : p ∉ m.ord) {f : Int} (hf : 0 ≤ f) (k : Nat) : Inv g (hurM (m.port p (m.ax p) true 0 f) p k f) N where
  psn := h.psn
  wx := fun q hq => by
    show m.wx q = fu m.ax p (m.ax p) q
    rw [fu_id rfl]; exact h.wx q hq
  wl := h.wl
  ordp := by
    show (addP m.ord p).Perm (m.ps.filter (fu m.up p true))
    have hup : m.up p = false := by
      cases e : m.up p with
      | false => rfl
      | true => exact absurd (h.ordm.mpr ⟨hp, e⟩) hu
    unfold addP
    rw [if_neg hu]
    exact (h.ordp.append_right [p]).trans (filter_add h.okP.nd hp hup).symm
  cw := fun q hq => by
    have hq : q ∈ addP m.ord p := hq
    unfold addP at hq
    rw [if_neg hu, List.mem_append, List.mem_singleton] at hq
    show fu m.aw p 0 q = fu m.cw p 0 q ∧ fu m.af p f q = fu m.cf p f q ∧ 0 ≤ fu m.cf p f q
    by_cases e : q = p
    · subst e; rw [fu_same, fu_same, fu_same, fu_same]; exact ⟨rfl, rfl, hf⟩
    · rw [fu_ne e, fu_ne e, fu_ne e, fu_ne e]; exact h.cw q (hq.resolve_right e)
  rows := h.rows
  uniq := h.uniq
  nb := h.nb
  nbl := h.nbl
  len := h.len
/-- a port goes down -/
theorem Inv.goDown (h : Inv g m N) (hg : GOk g) (hp : p ∈ m.ps) {w f : Int} (k : Nat) : Inv g { m.port p (m.ax p) false w f with ord := m.ord.filter fun q => decide (q ≠ p), own := m.own.filter fun r => decide (r.port ≠ p), nl := fu m.nl p k, nb := fu m.nb p [] } N where
  psn := h.psn
  wx := fun q hq => by
    show m.wx q = fu m.ax p (m.ax p) q
    rw [fu_id rfl]; exact h.wx q hq
  wl := h.wl
  ordp := by
    show (m.ord.filter fun q => decide (q ≠ p)).Perm (m.ps.filter (fu m.up p false))
    refine (h.ordp.filter _).trans (.of_eq ?_)
    rw [List.filter_filter]
    refine List.filter_congr fun q _ => ?_
    by_cases e : q = p
    · subst e; rw [fu_same]; simp
    · rw [fu_ne e]; simp [e]
  cw := fun q hq => by
    have hq := List.mem_filter.mp hq
    have e : q ≠ p := by simpa using hq.2
    show fu m.aw p _ q = m.cw q ∧ fu m.af p _ q = m.cf q ∧ 0 ≤ m.cf q
    rw [fu_ne e, fu_ne e]; exact h.cw q hq.1
  rows := fun r hr => h.rows r (List.mem_filter.mp hr).1
  uniq := h.uniq.filter _
  nb := fun q hq => by
    show (fu m.nb p [] q).Perm _
    dsimp only
    rw [List.filter_filter]
    by_cases e : q = p
    · subst e; rw [fu_same]
      have : (m.own.filter fun r => decide (r.port = q) && decide (r.port ≠ q)) = [] := by
        rw [List.filter_eq_nil_iff]; intro r _; simp
      rw [this]
    · rw [fu_ne e]
      have : (m.own.filter fun r => decide (r.port = q) && decide (r.port ≠ p)) = m.own.filter fun r => decide (r.port = q) := by
        refine List.filter_congr fun r _ => ?_
        by_cases e1 : r.port = q
        · simp [e1, e]
        · simp [e1]
      rw [this]; exact h.nb q hq
  nbl := fun q hq => by
    show ((fu m.nb p [] q).length : Int) ≤ _
    by_cases e : q = p
    · subst e; rw [fu_same]; have := hg.m1; simp; lia
    · rw [fu_ne e]; exact h.nbl q hq
  len := Nat.le_trans (List.length_filter_le _ _) h.len
/-- a port gets other words -/
theorem Inv.word (h : Inv g m N) {x : List UInt8} (hx : x.length ≤ 2) {w f : Int} (hd : p ∉ m.ord) : Inv g { m.port p x (m.up p) w f with wx := fu m.wx p x } N where
  psn := h.psn
  wx := fun q hq => by
    show fu m.wx p x q = fu m.ax p x q
    by_cases e : q = p
    · subst e; rw [fu_same, fu_same]
    · rw [fu_ne e, fu_ne e]; exact h.wx q hq
  wl := fun q hq => by
    show (fu m.wx p x q).length ≤ 2
    by_cases e : q = p
    · subst e; rw [fu_same]; exact hx
    · rw [fu_ne e]; exact h.wl q hq
  ordp := by
    show m.ord.Perm (m.ps.filter (fu m.up p (m.up p)))
    rw [fu_id rfl]; exact h.ordp
  cw := fun q hq => by
    have e : q ≠ p := fun e => hd (e ▸ hq)
    show fu m.aw p _ q = m.cw q ∧ fu m.af p _ q = m.cf q ∧ 0 ≤ m.cf q
    rw [fu_ne e, fu_ne e]; exact h.cw q hq
  rows := h.rows
  uniq := h.uniq
  nb := h.nb
  nbl := h.nbl
  len := h.len
/-- the words of a port, where its clock is hurried too -/
theorem Inv.wordUp (h : Inv g m N) {x : List UInt8} (hx : x.length ≤ 2) (hp : p ∈ m.ord) {f : Int} (hf : 0 ≤ f) (k : Nat) : Inv g { hurM (m.port p x (m.up p) 0 f) p k f with wx := fu m.wx p x } N where
  psn := h.psn
  wx := fun q hq => by
    show fu m.wx p x q = fu m.ax p x q
    by_cases e : q = p
    · subst e; rw [fu_same, fu_same]
    · rw [fu_ne e, fu_ne e]; exact h.wx q hq
  wl := fun q hq => by
    show (fu m.wx p x q).length ≤ 2
    by_cases e : q = p
    · subst e; rw [fu_same]; exact hx
    · rw [fu_ne e]; exact h.wl q hq
  ordp := by
    show (addP m.ord p).Perm (m.ps.filter (fu m.up p (m.up p)))
    rw [addP_in hp, fu_id rfl]; exact h.ordp
  cw := fun q hq => by
    have hq : q ∈ addP m.ord p := hq
    rw [addP_in hp] at hq
    show fu m.aw p 0 q = fu m.cw p 0 q ∧ fu m.af p f q = fu m.cf p f q ∧ 0 ≤ fu m.cf p f q
    by_cases e : q = p
    · subst e; rw [fu_same, fu_same, fu_same, fu_same]; exact ⟨rfl, rfl, hf⟩
    · rw [fu_ne e, fu_ne e, fu_ne e, fu_ne e]; exact h.cw q hq
  rows := h.rows
  uniq := h.uniq
  nb := h.nb
  nbl := h.nbl
  len := h.len
end

section
variable {g : G} {o o' : List PV} {σ : St}
theorem vat_own : vat (sceneE g o) (Str.ofString "own") = some (.lst o) := rfl
theorem vat_clk : vat (sceneE g o) (Str.ofString "clocks") = some (.obj (.d g.kC)) := rfl
theorem vat_wrd : vat (sceneE g o) (Str.ofString "words") = some (.obj (.d g.kW)) := rfl
theorem sto_own : sto (sceneE g o) (Str.ofString "own") (.lst o') = sceneE g o' := rfl
theorem sOwn (h : σ.H (.d g.kS) = some (.ds (sceneE g o))) : subv σ (.obj (.d g.kS)) (.str (Str.ofString "own")) = some (.lst o) := subDs h vat_own
theorem sClk (h : σ.H (.d g.kS) = some (.ds (sceneE g o))) : subv σ (.obj (.d g.kS)) (.str (Str.ofString "clocks")) = some (.obj (.d g.kC)) := subDs h vat_clk
theorem sWrd (h : σ.H (.d g.kS) = some (.ds (sceneE g o))) : subv σ (.obj (.d g.kS)) (.str (Str.ofString "words")) = some (.obj (.d g.kW)) := subDs h vat_wrd
theorem stOwn (h : σ.H (.d g.kS) = some (.ds (sceneE g o))) : setItemv σ (.obj (.d g.kS)) (.str (Str.ofString "own")) (.lst o') = some (σ.set (.d g.kS) (some (.ds (sceneE g o')))) := by
  rw [stoDs h (by show 3 ≤ _; decide), sto_own]
mutual
noncomputable def plV : PV → Bool
  | .int _ => true
  | .str _ => true
  | .bytes _ => true
  | .tup l => plVs l
  | .lst l => plVs l
  | _ => false
noncomputable def plVs : List PV → Bool
  | [] => true
  | x :: l => plV x && plVs l
end
theorem peqs_step {x : PV} {l : List PV} (h1 : plV x = true → peq x x = some true) (h2 : plVs l = true → peqs l l = some true) (h : plVs (x :: l) = true) : peqs (x :: l) (x :: l) = some true := by
  have h := (Bool.and_eq_true _ _).mp h
  show (peq x x).bind _ = _
  rw [h1 h.1]; show (peqs l l).map _ = _; rw [h2 h.2]; rfl
theorem dec_self {α : Type} [DecidableEq α] (a : α) : some (decide (a = a)) = some true := congrArg some (decide_eq_true rfl)
theorem peq_self (p : PV) : plV p = true → peq p p = some true :=
  PV.rec (motive_1 := fun p => plV p = true → peq p p = some true) (motive_2 := fun l => plVs l = true → peqs l l = some true) bF (fun _ => bF) (fun i _ => dec_self i) (fun i _ => dec_self i) (fun i _ => dec_self i) (fun _ ih h => ih h) (fun _ ih h => ih h) (fun _ _ _ _ => bF) (fun _ _ _ => bF) (fun _ => bF) (fun _ => rfl) (fun _ _ h1 h2 => peqs_step h1 h2) p
theorem peqs_self (l : List PV) : plVs l = true → peqs l l = some true := by
  induction l with
  | nil => exact fun _ => rfl
  | cons x l ih => exact peqs_step (peq_self x) ih
theorem plVs_all {l : List PV} (h : ∀ x ∈ l, plV x = true) : plVs l = true := by
  induction l with
  | nil => rfl
  | cons a l ih =>
    unfold plVs
    rw [h a (List.mem_cons_self ..), ih fun x hx => h x (List.mem_cons_of_mem _ hx)]; rfl
theorem peqs_names (l : List R) : peqs (l.map fun r => nameV r.who) (l.map fun r => nameV r.who) = some true := peqs_self _ (plVs_all fun x hx => by
  obtain ⟨r, _, rfl⟩ := List.mem_map.mp hx; rfl)
theorem deps_names : ∀ l : List R, deps (l.map fun r => nameV r.who) ≤ 2
  | [] => by decide
  | r :: l => by
    have := deps_names l
    show max (dep (nameV r.who)) (deps (l.map fun r => nameV r.who)) ≤ 2
    have e : dep (nameV r.who) = 2 := rfl
    lia
theorem eqNames {l : List R} : cmpc σ .Eq (.lst (l.map fun r => nameV r.who)) (.lst (l.map fun r => nameV r.who)) = some true := by
  have h : dep (.lst (l.map fun r => nameV r.who)) ≤ 100 := Nat.le_trans (Nat.succ_le_succ (deps_names l)) (by decide)
  unfold cmpc
  rw [if_pos h]
  exact peqs_names l
end
noncomputable def StepQ (g : G) (N : Nat) (r : PV × St) : Prop := r.1 = .bool true ∧ ∃ m, Hp g m r.2 ∧ Inv g m N
noncomputable def stRest : List Stmt := F_law_step_right.body.drop 1
noncomputable def stLs (g : G) (now p d : Int) : Ls := [(Str.ofString "source", .obj (.l g.s)), (Str.ofString "agent", agentV g), (Str.ofString "scene", .obj (.d g.kS)), (Str.ofString "now", .int now), (Str.ofString "port", .int p), (Str.ofString "way", .int d)]
section
variable {n : Nat} {σ : St} {g : G} {m : M} {N : Nat} {now p : Int}
theorem stepA1 (hg : GOk g) (h : Hp g m σ) (hi : Inv g m N) (hp : p ∈ m.ps) (ho : p ∉ m.ord) : SQ (n + 72) F_law_step_right.scope stRest (stLs g now p 0) σ (kC (StepQ g (N + 1))) := by
  have h1 := h.scene
  have h3 := h.clocks
  refine qT' rfl ?_; refine qI' ?_; refine tC ?_; refine rP rfl ?_; refine rSub ?_; refine rP rfl ?_; refine rP rfl ?_; refine ⟨_, sClk (by assumption), ?_⟩; refine ⟨_, niDi (by assumption), ?_⟩
  rw [vat_map_none (f := fun q => .obj (.l (m.cl q))) ho]
  refine ⟨fun _ => ?_, fun e => bTF e⟩; refine qX rfl ?_; refine rMe rfl (by decide) rfl ?_; refine rP rfl ?_; refine ⟨_, MkR.inst rfl rfl, ?_⟩; refine sP rfl ?_
  refine link_up_ok agHp h hp fun σ1 h' => ?_
  have h1 := h'.scene
  refine qX rfl ?_; refine rCall rfl rfl ?_; refine sC ?_; refine rSub ?_; refine rP rfl ?_; refine rP rfl ?_; refine ⟨_, sClk (by assumption), ?_⟩; refine sP rfl ?_; refine ⟨Nat.le_of_ble_eq_true rfl, ?_⟩
  refine law_hurry_ok h' hi.ordl fun σ2 h'' => ?_
  refine qRP rfl ?_; refine ⟨rfl, ?_⟩
  exact ⟨_, h'', (hi.goUp hp ho (by have := hg.c1; lia) _).le (Nat.le_succ _)⟩
theorem stepA2 (hg : GOk g) (h : Hp g m σ) (hi : Inv g m N) (hN : N ≤ 500) (hp : p ∈ m.ps) (ho : p ∈ m.ord) : SQ (n + 72) F_law_step_right.scope stRest (stLs g now p 0) σ (kC (StepQ g (N + 1))) := by
  have h1 := h.scene
  have h3 := h.clocks
  have hln : m.own.length ≤ 1000 := by have := hi.len; lia
  refine qT' rfl ?_; refine qI' ?_; refine tC ?_; refine rP rfl ?_; refine rSub ?_; refine rP rfl ?_; refine rP rfl ?_; refine ⟨_, sClk (by assumption), ?_⟩; refine ⟨_, niDi (by assumption), ?_⟩
  rw [vat_map (f := fun q => .obj (.l (m.cl q))) ho]
  refine ⟨fun e => bFT e, fun _ => ?_⟩; refine q0 ?_; refine qA rfl rfl ?_; refine rCall rfl rfl ?_; refine sC ?_; refine rSub ?_; refine rP rfl ?_; refine rP rfl ?_; refine ⟨_, sOwn (by assumption), ?_⟩; refine sP rfl ?_; refine ⟨Nat.le_of_ble_eq_true rfl, ?_⟩
  refine W_of (law_names_ok (fun r hr => (hi.rows r hr).2) (hi.okO hg hp)) ?_
  refine qAS rfl ?_; refine rCo ?_; refine c1 rfl rfl ?_; refine iE' ?_; refine rSub ?_; refine rP rfl ?_; refine rP rfl ?_; refine ⟨_, sOwn (by assumption), ?_⟩; refine ⟨_, _, rfl, ?_⟩
  refine W_compM (g := fun r => if decide (r.port ≠ p) = true then [rowV r] else []) (fun r hr => u1 rfl rfl rfl (fun e => rP rfl ⟨iT (decide_not.trans e), Sub.set rfl, rfl⟩) fun e => ⟨iF (decide_not.trans e), Sub.set rfl, rfl⟩) ?_
  rw [flat_filter]
  refine ⟨by rw [List.length_map]; exact Nat.le_trans (List.length_filter_le _ _) (by lia), ?_⟩
  obtain ⟨m2, e2, hh⟩ : ∃ m2 : M, m2 = { m with own := m.own.filter fun r => decide (r.port ≠ p), ord := m.ord.filter fun q => decide (q ≠ p) } ∧ Hp g m2 ((σ.set (.d g.kS) (some (.ds (sceneE g ((m.own.filter fun r => decide (r.port ≠ p)).map rowV))))).set (.d g.kC) (some (.di ((m.ord.filter fun q => decide (q ≠ p)).map fun q => (q, .obj (.l (m.cl q))))))) := ⟨_, rfl, (h.setOwn (m.own.filter fun r => decide (r.port ≠ p))).setClocks (m.ord.filter fun q => decide (q ≠ p)) fun q hq => (List.mem_filter.mp hq).1⟩
  have fin := fun k => (hi.goDown hg hp (w := m.aw p) (f := m.af p) k).le (Nat.le_succ _)
  have k1 : ¬ g.kC = g.kS := by have := h.o3; have := h.o4; lia
  have h4 : (σ.set (.d g.kS) (some (.ds (sceneE g ((m.own.filter fun r => decide (r.port ≠ p)).map rowV))))).H (.d g.kC) = _ := (set_ne (dne k1)).trans h3
  have h5 : p ∈ m2.ps := by rw [e2]; exact hp
  have h6 : OkN (m2.nb p) := by rw [e2]; exact hi.okN hg hp
  refine rP rfl ?_; refine rP rfl ?_; refine ⟨_, stOwn (by assumption), ?_⟩; refine qX rfl ?_; refine rMb rfl (by decide) rfl ?_; refine rSub ?_; refine rP rfl ?_; refine rP rfl ?_; refine ⟨_, sClk set_eq, ?_⟩
  refine ⟨_, MkR.popI h4, ?_⟩
  refine sP rfl ?_
  refine W_of (McR.popI h4 (by rw [List.length_map]; have := hi.ordl; lia) (vat_map (f := fun q => .obj (.l (m.cl q))) ho)) ?_
  rw [wou_map]
  refine qR ?_; refine rBo ?_; refine rCmp ?_; refine rMe rfl (by decide) rfl ?_; refine rP rfl ?_; refine ⟨_, MkR.inst rfl rfl, ?_⟩; refine sP rfl ?_
  refine link_down_ok hh h5 h6 fun σ1 k h' => ?_
  have h7 : srt R.who (m2.nb p) = srt R.who (m.own.filter fun r => decide (r.port = p)) := by rw [e2]; exact hi.srt_eq hp
  rw [h7]
  have hn0 : OkN (fu m2.nb p [] p) := by rw [fu_same]; exact ⟨by simp, .nil, fun r hr => by cases hr⟩
  have hs0 : srt R.who (fu m2.nb p [] p) = [] := by rw [fu_same]; exact srt_uniq .nil (.refl _)
  refine rP rfl ?_
  refine ⟨_, eqNames, ?_⟩
  refine ⟨_, rfl, ?_⟩; refine ⟨fun _ => ?_, fun e => bTF e⟩; refine rBo1 ?_; refine rCmp ?_; refine rMe rfl (by decide) rfl ?_; refine rP rfl ?_; refine ⟨_, MkR.inst rfl rfl, ?_⟩; refine sP rfl ?_
  refine W_of (nbrs_of_ok h' h5 hn0) ?_
  dsimp only
  rw [hs0, List.map_nil]
  refine rP rfl ?_; refine ⟨_, rfl, ?_⟩; refine ⟨_, rfl, ?_⟩; refine ⟨rfl, ?_⟩
  have hf := fin k
  exact ⟨_, h', by rw [e2]; exact hf⟩
end

section
variable {n : Nat} {σ : St} {g : G} {m : M} {N : Nat} {now p : Int}
theorem Inv.pr (hi : Inv g m N) (hp : p ∈ m.ps) : 1 ≤ p ∧ p ≤ 3 := by
  rcases hi.psn with e | e
  · rw [e] at hp; simp at hp; lia
  · rw [e] at hp; simp at hp; lia
theorem sto_wx {f : Int → List UInt8} {l : List Int} {t : List UInt8} (hp : p ∈ l) : sto (l.map fun q => (q, PV.bytes (f q).toArray)) p (.bytes t.toArray) = l.map fun q => (q, PV.bytes (fu f p t q).toArray) := by
  rw [sto_map (f := fun q => .bytes (f q).toArray)]
  unfold addP
  rw [if_pos hp]
  refine List.map_congr_left fun q _ => ?_
  unfold fu; split <;> rfl
theorem stepB (hg : GOk g) (h : Hp g m σ) (hi : Inv g m N) (hp : p ∈ m.ps) : SQ (n + 72) F_law_step_right.scope stRest (stLs g now p 1) σ (kC (StepQ g (N + 1))) := by
  refine qF' rfl ?_; refine qT' rfl ?_; refine qA rfl rfl ?_; refine rCall rfl rfl ?_; refine sP rfl ?_
  refine law_one_ok h (by decide) (by decide) fun v hv σ1 h => ?_
  have hv : ∃ t : List UInt8, v = .bytes t.toArray ∧ t.length ≤ 2 := by
    simp only [List.mem_cons, List.not_mem_nil, or_false] at hv
    rcases hv with e | e | e <;> exact ⟨_, e, by decide⟩
  obtain ⟨t, rfl, ht⟩ := hv
  have h1 := h.scene
  have h2 := h.words
  have h3 := h.clocks
  have w1 := vat_map (f := fun q => .bytes (m.wx q).toArray) hp
  have hh := h.setWord (p := p) t
  have k1 : ¬ g.kC = g.kW := by have := h.o3; lia
  have k2 : ¬ g.kS = g.kW := by have := h.o4; lia
  refine qA rfl rfl ?_; refine rCmp ?_; refine rSub ?_; refine rSub ?_; refine rP rfl ?_; refine rP rfl ?_; refine ⟨_, sWrd (by assumption), ?_⟩; refine rP rfl ?_; refine ⟨_, subDi (by assumption) (by assumption), ?_⟩; refine rP rfl ?_; refine ⟨_, rfl, ?_⟩; refine qAS rfl ?_; refine rP rfl ?_; refine rSub ?_; refine rP rfl ?_; refine rP rfl ?_; refine ⟨_, sWrd (by assumption), ?_⟩; refine rP rfl ?_
  generalize hb : (fun x => !x) (decide ((m.wx p).toArray = t.toArray)) = b
  have hbT : b = true → t ≠ m.wx p := fun e e' => by rw [← hb, e'] at e; simp at e
  have hbF : b = false → t = m.wx p := fun e => by rw [← hb] at e; exact (show m.wx p = t by simpa using e).symm
  clear hb
  refine ⟨_, stoDi (by assumption) (by rw [List.length_map]; have := hi.okP.len; lia), ?_⟩
  rw [sto_wx hp]
  have p1 : 0 ≤ 48 + p := by have := hi.pr hp; lia
  have p2 : 48 + p < 256 := by have := hi.pr hp; lia
  refine qI' ?_; refine tAnd ?_; refine tP rfl ?_
  cases b with
  | false =>
    have et := hbF rfl
    subst et
    refine ⟨fun e => bFT e, fun _ => ⟨fun e => bFT e, fun _ => q0 ?_⟩⟩
    refine qR ?_; refine rCmp ?_; refine rMe rfl (by decide) rfl ?_; refine rP rfl ?_; refine ⟨_, MkR.inst rfl rfl, ?_⟩; refine sC ?_; refine rP rfl ?_; refine sC ?_; refine rCall rfl rfl ?_; refine sC ?_; refine rBi rfl rfl ?_; refine sP rfl ?_
    refine ⟨_, byB1 p1 p2, ?_⟩
    refine sP rfl ?_; refine ⟨Nat.le_of_ble_eq_true rfl, ?_⟩
    refine W_of (law_words_ok [(48 + p).toNat.toUInt8] _ 1) ?_
    refine sP rfl ?_; refine ⟨Nat.le_of_ble_eq_true rfl, ?_⟩; refine ⟨Nat.le_of_ble_eq_true rfl, ?_⟩
    refine change_ok (m := { m with wx := fu m.wx p (m.wx p) }) hg hh hp (m.wx p) 1 (fun hz => ?_) (fun e => absurd (hi.wx p hp) e)
    refine rP rfl ?_; refine ⟨_, rfl, ?_⟩; refine ⟨rfl, ?_⟩
    exact ⟨_, hh, by rw [fu_id rfl]; exact hi.le (Nat.le_succ _)⟩
  | true =>
    have et := hbT rfl
    refine ⟨fun _ => ?_, fun e => bTF e⟩
    refine tOne ?_; refine tC ?_; refine rP rfl ?_; refine rSub ?_; refine rP rfl ?_; refine rP rfl ?_; refine ⟨_, sClk ((set_ne (dne (by lia))).trans (by assumption)), ?_⟩; refine ⟨_, inDi ((set_ne (dne (by lia))).trans (by assumption)), ?_⟩
    by_cases ho : p ∈ m.ord
    · rw [vat_map (f := fun q => .obj (.l (m.cl q))) ho]
      refine ⟨fun _ => ?_, fun e => bTF e⟩; refine qX rfl ?_; refine rCall rfl rfl ?_; refine sC ?_; refine rSub ?_; refine rP rfl ?_; refine rP rfl ?_; refine ⟨_, sClk ((set_ne (dne (by lia))).trans (by assumption)), ?_⟩; refine sP rfl ?_; refine ⟨Nat.le_of_ble_eq_true rfl, ?_⟩
      refine law_hurry_ok hh hi.ordl fun σ2 h' => ?_
      have fin := fun k => (hi.wordUp (f := g.c) ht ho (by have := hg.c1; lia) k).le (Nat.le_succ _)
      refine q0 ?_; refine qR ?_; refine rCmp ?_; refine rMe rfl (by decide) rfl ?_; refine rP rfl ?_; refine ⟨_, MkR.inst rfl rfl, ?_⟩; refine sC ?_; refine rP rfl ?_; refine sC ?_; refine rCall rfl rfl ?_; refine sC ?_; refine rBi rfl rfl ?_; refine sP rfl ?_
      refine ⟨_, byB1 p1 p2, ?_⟩
      refine sP rfl ?_; refine ⟨Nat.le_of_ble_eq_true rfl, ?_⟩
      refine W_of (law_words_ok [(48 + p).toNat.toUInt8] _ 1) ?_
      refine sP rfl ?_; refine ⟨Nat.le_of_ble_eq_true rfl, ?_⟩; refine ⟨Nat.le_of_ble_eq_true rfl, ?_⟩
      refine change_ok hg h' hp t 1 (fun e => absurd (e.trans (hi.wx p hp).symm) et) (fun _ σ3 h'' => ?_)
      refine rP rfl ?_; refine ⟨_, rfl, ?_⟩; refine ⟨rfl, ?_⟩
      exact ⟨_, h'', fin _⟩
    · rw [vat_map_none (f := fun q => .obj (.l (m.cl q))) ho]
      refine ⟨fun e => bFT e, fun _ => ?_⟩; refine q0 ?_; refine qR ?_; refine rCmp ?_; refine rMe rfl (by decide) rfl ?_; refine rP rfl ?_; refine ⟨_, MkR.inst rfl rfl, ?_⟩; refine sC ?_; refine rP rfl ?_; refine sC ?_; refine rCall rfl rfl ?_; refine sC ?_; refine rBi rfl rfl ?_; refine sP rfl ?_
      refine ⟨_, byB1 p1 p2, ?_⟩
      refine sP rfl ?_; refine ⟨Nat.le_of_ble_eq_true rfl, ?_⟩
      refine W_of (law_words_ok [(48 + p).toNat.toUInt8] _ 1) ?_
      refine sP rfl ?_; refine ⟨Nat.le_of_ble_eq_true rfl, ?_⟩; refine ⟨Nat.le_of_ble_eq_true rfl, ?_⟩
      refine change_ok hg hh hp t 1 (fun e => absurd (e.trans (hi.wx p hp).symm) et) (fun _ σ3 h'' => ?_)
      have fin := (hi.word ht (w := 0) (f := g.c) ho).le (Nat.le_succ _)
      refine rP rfl ?_; refine ⟨_, rfl, ?_⟩; refine ⟨rfl, ?_⟩
      exact ⟨_, h'', fin⟩
end

section
variable {n : Nat} {σ : St} {g : G} {m : M} {N : Nat} {now p w s : Int} {t : List UInt8} {Q : PV × St → Prop} {r : R}
variable {H : M → St → Prop}
theorem lh_bad (A : Ag g H) (h : H m σ) (hp : p ∈ m.ps) (hu : m.up p = false) (hw : 0 ≤ w ∧ w < 5) (ht : t.length ≤ 2) (h0 : 0 ≤ s) (h1 : s < 65536) (hQ : ∀ σ', H m σ' → Q (strE "bad", σ')) : W (callF tbl (n + 61) F_law_call [agentV g, .int p, .int w, .bytes t.toArray, .int s, .int now] σ) Q :=
  law_call_ok hw ht h0 h1 fun σ1 hx => heard_bad (n := n + 8) A (A.ext h hx) hp hu (hQ _ (A.ext h hx))
theorem lh_unknown (A : Ag g H) (h : H m σ) (hp : p ∈ m.ps) (hn : OkN (m.nb p)) (hu : m.up p = true) (hw : 0 ≤ w ∧ w < 5) (ht : t.length ≤ 2) (h0 : 0 ≤ s) (h1 : s < 65536)
    (hf : ((m.nb p).find? fun x => decide (x.who = w)) = none) (hs : s = 0) (hQ : ∀ σ', H m σ' → Q (strE "unknown", σ')) : W (callF tbl (n + 61) F_law_call [agentV g, .int p, .int w, .bytes t.toArray, .int s, .int now] σ) Q :=
  law_call_ok hw ht h0 h1 fun σ1 hx => heard_ok (n := n + 2) A (A.ext h hx) hp hn hu hw ht h0 h1 fun σ' => by
    rw [hf]; dsimp only; rw [if_pos hs]; exact hQ σ'
theorem lh_full (A : Ag g H) (h : H m σ) (hp : p ∈ m.ps) (hn : OkN (m.nb p)) (hu : m.up p = true) (hw : 0 ≤ w ∧ w < 5) (ht : t.length ≤ 2) (h0 : 0 ≤ s) (h1 : s < 65536)
    (hf : ((m.nb p).find? fun x => decide (x.who = w)) = none) (hs : ¬ s = 0) (hm : g.most ≤ (m.nb p).length) (hQ : ∀ σ', H m σ' → Q (strE "full", σ')) : W (callF tbl (n + 61) F_law_call [agentV g, .int p, .int w, .bytes t.toArray, .int s, .int now] σ) Q :=
  law_call_ok hw ht h0 h1 fun σ1 hx => heard_ok (n := n + 2) A (A.ext h hx) hp hn hu hw ht h0 h1 fun σ' => by
    rw [hf]; dsimp only; rw [if_neg hs, if_pos hm]; exact hQ σ'
theorem lh_new (A : Ag g H) (h : H m σ) (hp : p ∈ m.ps) (hn : OkN (m.nb p)) (hu : m.up p = true) (hw : 0 ≤ w ∧ w < 5) (ht : t.length ≤ 2) (h0 : 0 ≤ s) (h1 : s < 65536)
    (hf : ((m.nb p).find? fun x => decide (x.who = w)) = none) (hs : ¬ s = 0) (hm : ¬ g.most ≤ (m.nb p).length) (hQ : ∀ σ', H { m.port p (m.ax p) true 0 g.c with nb := fu m.nb p (stoR (m.nb p) ⟨p, w, t, s, now + s⟩) } σ' → Q (strE "new", σ')) : W (callF tbl (n + 61) F_law_call [agentV g, .int p, .int w, .bytes t.toArray, .int s, .int now] σ) Q :=
  law_call_ok hw ht h0 h1 fun σ1 hx => heard_ok (n := n + 2) A (A.ext h hx) hp hn hu hw ht h0 h1 fun σ' => by
    rw [hf]; dsimp only; rw [if_neg hs, if_neg hm]; exact hQ σ'
theorem lh_gone (A : Ag g H) (h : H m σ) (hp : p ∈ m.ps) (hn : OkN (m.nb p)) (hu : m.up p = true) (hw : 0 ≤ w ∧ w < 5) (ht : t.length ≤ 2) (h0 : 0 ≤ s) (h1 : s < 65536)
    (hf : ((m.nb p).find? fun x => decide (x.who = w)) = some r) (hs : s = 0) (hQ : ∀ σ', H { m with nb := fu m.nb p ((m.nb p).filter fun x => decide (x.who ≠ w)) } σ' → Q (strE "gone", σ')) : W (callF tbl (n + 61) F_law_call [agentV g, .int p, .int w, .bytes t.toArray, .int s, .int now] σ) Q :=
  law_call_ok hw ht h0 h1 fun σ1 hx => heard_ok (n := n + 2) A (A.ext h hx) hp hn hu hw ht h0 h1 fun σ' => by
    rw [hf]; dsimp only; rw [if_pos hs]; exact hQ σ'
theorem lh_upd (A : Ag g H) (h : H m σ) (hp : p ∈ m.ps) (hn : OkN (m.nb p)) (hu : m.up p = true) (hw : 0 ≤ w ∧ w < 5) (ht : t.length ≤ 2) (h0 : 0 ≤ s) (h1 : s < 65536)
    (hf : ((m.nb p).find? fun x => decide (x.who = w)) = some r) (hs : ¬ s = 0) (hQ : ∀ σ', H { m with nb := fu m.nb p (stoR (m.nb p) ⟨p, w, t, s, now + s⟩) } σ' → Q (strE (if r.txt = t ∧ r.sec = s then "same" else "changed"), σ')) : W (callF tbl (n + 61) F_law_call [agentV g, .int p, .int w, .bytes t.toArray, .int s, .int now] σ) Q :=
  law_call_ok hw ht h0 h1 fun σ1 hx => heard_ok (n := n + 2) A (A.ext h hx) hp hn hu hw ht h0 h1 fun σ' => by
    rw [hf]; dsimp only; rw [if_neg hs]; exact hQ σ'
noncomputable def CallQ (g : G) (N : Nat) (now p w s : Int) (t : List UInt8) (wd : String) (σ : St) : Prop := ∀ n Q, (∀ σ' m', Hp g m' σ' → Inv g m' (N + 1) → Q (strE wd, σ')) → W (callF tbl (n + 61) F_law_call [agentV g, .int p, .int w, .bytes t.toArray, .int s, .int now] σ) Q
noncomputable def DueQ (g : G) (m : M) (N : Nat) (now p w s : Int) (t : List UInt8) (D : String × List R) : Prop :=
  (decide (Str.ofString D.1 = Str.ofString "new") = false ∧ ∀ σ, Hp g { m with own := D.2 } σ → CallQ g N now p w s t D.1 σ) ∨ (D.1 = "new" ∧ ∀ σ k, Hp g (hurM { m with own := D.2 } p k g.c) σ → CallQ g N now p w s t D.1 σ)
theorem wordIf {c : Prop} [Decidable c] : decide (Str.ofString (if c then "same" else "changed") = Str.ofString "new") = false := by
  by_cases e : c
  · rw [if_pos e]; rfl
  · rw [if_neg e]; rfl
theorem due_plain (hg : GOk g) (hi : Inv g m N) (hp : p ∈ m.ps) (ho : p ∈ m.ord) (hw : 0 ≤ w ∧ w < 5) (ht : t.length ≤ 2) (h0 : 0 ≤ s) (h1 : s < 65536) : DueQ g m N now p w s t (dueO m.own g.most p w t s now) := by
  have hu := (hi.ordm.mp ho).2
  have hfd := hi.find hp (w := w)
  have hok := hi.okN hg hp
  have hcn := hi.cnt hp
  unfold dueO
  dsimp only
  by_cases hs : s = 0
  · rw [if_pos hs]
    cases hm : m.own.filter (isM p w) with
    | nil =>
      rw [hm] at hfd
      rw [if_pos rfl]
      have fin : Inv g { m with own := m.own.filter fun r => !isM p w r } (N + 1) := by
        have := hi.rm (w := w) hp
        have e : ((m.nb p).filter fun x => decide (x.who ≠ w)) = m.nb p := List.filter_eq_self.mpr fun x hx => by
          have := (List.find?_eq_none.mp hfd) x hx
          simpa using this
        rw [e, fu_id rfl] at this
        exact this.le (Nat.le_succ _)
      exact .inl ⟨rfl, fun σ hh n Q hQ => lh_unknown agHp hh hp hok hu hw ht h0 h1 hfd hs fun σ' h' => hQ _ _ h' fin⟩
    | cons r l =>
      rw [hm] at hfd
      rw [if_neg (List.cons_ne_nil _ _)]
      exact .inl ⟨rfl, fun σ hh n Q hQ => lh_gone agHp hh hp hok hu hw ht h0 h1 hfd hs fun σ' h' => hQ _ _ h' ((hi.rm (w := w) hp).le (Nat.le_succ _))⟩
  · rw [if_neg hs]
    cases hm : m.own.filter (isM p w) with
    | nil =>
      rw [hm] at hfd
      by_cases hf : g.most ≤ ((m.nb p).length : Int)
      · rw [if_pos ⟨rfl, by rw [hcn]; exact hf⟩]
        exact .inl ⟨rfl, fun σ hh n Q hQ => lh_full agHp hh hp hok hu hw ht h0 h1 hfd hs hf fun σ' h' => hQ _ _ h' (hi.le (Nat.le_succ _))⟩
      · rw [if_neg (by rw [hcn]; exact fun x => hf x.2)]
        have fin := fun k => (hi.put (t := t) (s := s) (u := now + s) hg hp hw (by unfold stoR; rw [hfd, if_neg (by simp)]; rw [List.length_append, List.length_singleton]; lia)).hur (p := p) ho (x := m.ax p) (hi.wx p hp) (f := g.c) (by have := hg.c1; lia) k
        exact .inr ⟨rfl, fun σ k hh n Q hQ => lh_new agHp hh hp hok hu hw ht h0 h1 hfd hs hf fun σ' h' => hQ _ _ h' (fin k)⟩
    | cons r l =>
      rw [hm] at hfd
      rw [if_neg fun x => nomatch x.1]
      have fin := hi.put (t := t) (s := s) (u := now + s) hg hp hw (by unfold stoR; rw [hfd, if_pos (show (List.head? (r :: l)).isSome = true from rfl), List.length_map]; exact hi.nbl p hp)
      exact .inl ⟨wordIf, fun σ hh n Q hQ => lh_upd agHp hh hp hok hu hw ht h0 h1 hfd hs fun σ' h' => hQ _ _ h' fin⟩
theorem stepC (hg : GOk g) (h : Hp g m σ) (hi : Inv g m N) (hN : N ≤ 500) (hp : p ∈ m.ps) {d : Int} (hd0 : ¬ d = 0) (hd1 : ¬ d = 1) : SQ (n + 72) F_law_step_right.scope stRest (stLs g now p d) σ (kC (StepQ g (N + 1))) := by
  refine qF0 rfl (dF hd0) ?_
  refine qF0 rfl (dF hd1) ?_
  refine qAT rfl ?_; refine sC ?_; refine rCall rfl rfl ?_; refine sP rfl ?_
  refine take_ok h (by decide) (by decide) fun w σ0 w0 w1 h => ?_
  refine sC ?_; refine rCall rfl rfl ?_; refine sP rfl ?_
  refine law_one_ok h (by decide) (by decide) fun v hv σ1 h => ?_
  have hv : ∃ t : List UInt8, v = .bytes t.toArray ∧ t.length ≤ 2 := by
    simp only [List.mem_cons, List.not_mem_nil, or_false] at hv
    rcases hv with e | e <;> exact ⟨_, e, by decide⟩
  obtain ⟨t, rfl, ht⟩ := hv
  refine sC ?_; refine rCall rfl rfl ?_; refine sP rfl ?_
  refine law_one_ok h (by decide) (by decide) fun v hv σ2 h => ?_
  have hv : ∃ s : Int, v = .int s ∧ 0 ≤ s ∧ s < 65536 := by
    simp only [List.mem_cons, List.not_mem_nil, or_false] at hv
    rcases hv with e | e | e | e | e <;> exact ⟨_, e, by decide⟩
  obtain ⟨s, rfl, z0, z1⟩ := hv
  have h1 := h.scene
  have h3 := h.clocks
  refine sP rfl ?_; refine ⟨Nat.le_of_ble_eq_true rfl, ?_⟩; refine ⟨Nat.le_of_ble_eq_true rfl, ?_⟩; refine ⟨Nat.le_of_ble_eq_true rfl, ?_⟩; refine gN rfl ?_; refine gN rfl ?_; refine gN rfl ?_; refine g0 ?_; refine qI' ?_; refine tC ?_; refine rP rfl ?_; refine rSub ?_; refine rP rfl ?_; refine rP rfl ?_; refine ⟨_, sClk (by assumption), ?_⟩; refine ⟨_, niDi (by assumption), ?_⟩
  by_cases ho : p ∈ m.ord
  · rw [vat_map (f := fun q => .obj (.l (m.cl q))) ho]
    have dp := @due_plain g m N now p w s t hg hi hp ho ⟨w0, w1⟩ ht z0 z1
    have ld := fun n (σ : St) => @law_due_ok n σ p m.own g.most w s now t (by have := hi.len; lia)
    generalize dueO m.own g.most p w t s now = D at dp ld
    obtain ⟨wd, ow⟩ := D
    refine ⟨fun e => bFT e, fun _ => ?_⟩; refine q0 ?_
    refine qAU rfl rfl ?_
    refine rCall rfl rfl ?_; refine sC ?_; refine rSub ?_; refine rP rfl ?_; refine rP rfl ?_; refine ⟨_, sOwn (by assumption), ?_⟩; refine sP rfl ?_; refine ⟨Nat.le_of_ble_eq_true rfl, ?_⟩
    refine W_of (ld _ _) ?_
    refine ⟨_, .inr rfl, ?_⟩
    refine gN rfl ?_
    refine gS ?_
    have hh := h.setOwn ow
    refine rP rfl ?_; refine rP rfl ?_; refine ⟨_, stOwn (by assumption), ?_⟩; refine g0 ?_; refine qI' ?_; refine tP rfl ?_
    rcases dp with ⟨e, dp⟩ | ⟨e, dp⟩
    · dsimp only at e dp
      refine ⟨fun e' => bTF (e'.symm.trans e), fun _ => q0 ?_⟩
      refine qR ?_; refine rCmp ?_; refine rCall rfl rfl ?_; refine sP rfl ?_
      refine dp _ hh _ _ fun σ' m' h' hi' => ?_
      refine rP rfl ?_; refine ⟨_, rfl, ?_⟩
      exact ⟨congrArg PV.bool (decide_eq_true rfl), _, h', hi'⟩
    · dsimp only at e dp
      subst e
      refine ⟨fun _ => ?_, fun e' => bTF e'⟩
      have k1 : ¬ g.kC = g.kS := by have := h.o3; have := h.o4; lia
      refine qX rfl ?_; refine rCall rfl rfl ?_; refine sC ?_; refine rSub ?_; refine rP rfl ?_; refine rP rfl ?_; refine ⟨_, sClk set_eq, ?_⟩; refine sP rfl ?_; refine ⟨Nat.le_of_ble_eq_true rfl, ?_⟩
      refine law_hurry_ok hh hi.ordl fun σ3 h' => ?_
      refine q0 ?_; refine qR ?_; refine rCmp ?_; refine rCall rfl rfl ?_; refine sP rfl ?_
      refine dp _ _ h' _ _ fun σ' m' h' hi' => ?_
      refine rP rfl ?_; refine ⟨_, rfl, ?_⟩; refine ⟨rfl, ?_⟩
      exact ⟨_, h', hi'⟩
  · rw [vat_map_none (f := fun q => .obj (.l (m.cl q))) ho]
    have hu : m.up p = false := by
      cases e : m.up p with
      | false => rfl
      | true => exact absurd (hi.ordm.mpr ⟨hp, e⟩) ho
    refine ⟨fun _ => ?_, fun e => bTF e⟩; refine qR ?_; refine rCmp ?_; refine rCall rfl rfl ?_; refine sP rfl ?_
    refine lh_bad agHp h hp hu ⟨w0, w1⟩ ht z0 z1 fun σ' h' => ?_
    refine rP rfl ?_; refine ⟨_, rfl, ?_⟩; refine ⟨rfl, ?_⟩
    exact ⟨_, h', hi.le (Nat.le_succ _)⟩
end

section
variable {n : Nat} {σ : St} {g : G} {m : M} {N : Nat} {now : Int}
theorem lenDi {σ : St} {r : Loc} {es : List (Int × PV)} (h : σ.H r = some (.di es)) (hl : es.length ≤ 16777216) : bcall σ .len [.obj r] = some (.int es.length) := by
  show ((σ.H r).bind _) = _
  rw [h]; show Option.map _ (if _ then _ else _) = _; rw [if_pos hl]; rfl
theorem step_ok (hg : GOk g) (h : Hp g m σ) (hi : Inv g m N) (hN : N ≤ 500) : W (callF tbl (n + 73) F_law_step_right [.obj (.l g.s), agentV g, .obj (.d g.kS), .int now] σ) (StepQ g (N + 1)) := by
  have a0 := hi.okP.len
  have a1 : 1 ≤ m.ps.length := by rcases hi.psn with e | e <;> rw [e] <;> decide
  have h1 := h.scene
  have h2 := h.words
  have key : ∀ σ' p d, Hp g m σ' → p ∈ m.ps → SQ (n + 72) F_law_step_right.scope stRest (stLs g now p d) σ' (kC (StepQ g (N + 1))) := by
    intro σ' p d h' hp
    by_cases hd0 : d = 0
    · subst hd0
      by_cases ho : p ∈ m.ord
      · exact stepA2 hg h' hi hN hp ho
      · exact stepA1 hg h' hi hp ho
    · by_cases hd1 : d = 1
      · subst hd1; exact stepB hg h' hi hp
      · exact stepC hg h' hi hN hp hd0 hd1
  refine rC rfl ?_
  refine qAT rfl ?_; refine sC ?_; refine rBin ?_; refine rP rfl ?_; refine rCall rfl rfl ?_; refine sC ?_; refine rP rfl ?_; refine sC ?_; refine rBi rfl rfl ?_; refine sC ?_; refine rSub ?_; refine rP rfl ?_; refine rP rfl ?_; refine ⟨_, sWrd (by assumption), ?_⟩; refine sP rfl ?_; refine ⟨Nat.le_of_ble_eq_true rfl, ?_⟩
  refine ⟨_, lenDi h2 (by rw [List.length_map]; lia), ?_⟩
  rw [List.length_map]
  refine sP rfl ?_; refine ⟨Nat.le_of_ble_eq_true rfl, ?_⟩; refine ⟨Nat.le_of_ble_eq_true rfl, ?_⟩
  refine take_ok h (by lia) (by lia) fun d σ1 d0 d1 h' => ?_
  have hp : 1 + d ∈ m.ps := by
    rcases hi.psn with e | e
    · rw [e] at d1 ⊢; simp at d1 ⊢; lia
    · rw [e] at d1 ⊢; simp at d1 ⊢; lia
  refine ⟨_, rfl, ?_⟩; refine sC ?_; refine rCall rfl rfl ?_; refine sP rfl ?_
  refine take_ok h' (by decide) (by decide) fun d' σ2 d2 d3 h'' => ?_
  have kk := key σ2 (1 + d) d' h'' hp
  refine sP rfl ?_; refine ⟨Nat.le_of_ble_eq_true rfl, ?_⟩; refine ⟨Nat.le_of_ble_eq_true rfl, ?_⟩; refine gN rfl ?_; refine gN rfl ?_; refine g0 ?_; exact kk
end

theorem deps_all {l : List PV} {k : Nat} (h : ∀ x ∈ l, dep x ≤ k) : deps l ≤ k := by
  induction l with
  | nil => exact Nat.zero_le _
  | cons a l ih =>
    unfold deps
    have := h a (List.mem_cons_self ..)
    have := ih fun x hx => h x (List.mem_cons_of_mem _ hx)
    lia
section
variable {α : Type} {n : Nat} {sc : Scope} {gg : Comprehension} {kk : Expr ⊕ (Comprehension × Expr)} {σ₀ σ : St} {L ls : Ls} {F : α → PV} {g : α → List PV} {b : List Stmt} {nm : Str} {pp : Pos} {p : Loc} {K : Fl → Ls → St → Prop}
/-- a comprehension whose turns keep something of the state -/
theorem W_compI {I : St → Prop} : ∀ {l : List α} {σ : St} {Z : List PV → Ls → St → Prop}, I σ → (∀ r ∈ l, ∀ σ, I σ → TU n sc gg kk (F r) ls σ fun y l1 s => y = g r ∧ Sub ls l1 ∧ I s) → (∀ σ, I σ → Z (l.flatMap g) ls σ) → CF n sc gg kk none σ₀ (l.map F) ls σ Z
  | [], _, _, hI, _, hq => cN (hq _ hI)
  | r :: l, σ, _, hI, ht, hq => by
    obtain ⟨_, _, _, h0, h1, h2, h3⟩ := ht r (List.mem_cons_self ..) σ hI
    rw [h1] at h0
    exact cC ⟨_, _, _, h0, _, rfl, h2, W_compI h3 (fun r hr => ht r (List.mem_cons_of_mem _ hr)) fun s hs => hq s hs⟩
/-- a loop over a dict that stays as it is -/
theorem W_loopS (hv : asgN sc nm = true) : ∀ (l : List α), (∀ r ∈ l, SQ (n + 1) sc b (setL nm (F r) L) σ fun x l2 s2 => x.goes = true ∧ Sub L l2 ∧ s2 = σ) → K .next L σ → LF (n + 1) sc (.Name nm pp) b (some p) σ (l.map F) L σ K
  | [], _, hq => lN hq
  | r :: l, hs, hq => by
    obtain ⟨x, l2, _, h1, hg, hw, he⟩ := hs r (List.mem_cons_self ..)
    rw [he] at h1
    exact lC hv ⟨x, l2, _, h1, .inl ⟨L, hg, by unfold sameV; simp, hw, W_loopS hv l (fun r hr => hs r (List.mem_cons_of_mem _ hr)) hq⟩⟩
end
theorem eqSelf {σ : St} {l : List PV} (h : plVs l = true) (h1 : deps l ≤ 99) : cmpc σ .Eq (.lst l) (.lst l) = some true := by
  have h2 : dep (.lst l) ≤ 100 := Nat.succ_le_succ h1
  unfold cmpc
  rw [if_pos h2]
  exact peqs_self l h
theorem neSelf {σ : St} {l : List PV} (h : plVs l = true) (h1 : deps l ≤ 99) : cmpc σ .NotEq (.lst l) (.lst l) = some false := by
  have h2 : dep (.lst l) ≤ 100 := Nat.succ_le_succ h1
  unfold cmpc
  rw [if_pos h2]
  show (peqs l l).map (!·) = _
  rw [peqs_self l h]; rfl
noncomputable def over (now : Int) (l : List R) : List R := l.filter fun r => decide (r.til ≤ now)
noncomputable def left (now : Int) (l : List R) : List R := l.filter fun r => decide (now < r.til)
noncomputable def dueL (now : Int) (m : M) : List PV := m.ps.flatMap fun p => (srt R.who ((over now m.own).filter fun r => decide (r.port = p))).map fun r => .tup [.int p, nameV r.who]
section
variable {g : G} {m : M} {N : Nat} {p now : Int}
theorem Inv.due_eq (h : Inv g m N) : expA now m m.ps = dueL now m := by
  unfold expA dueL
  suffices h : ∀ l : List Int, (∀ p ∈ l, p ∈ m.ps) → (l.flatMap fun p => expT now p (srt R.who (m.nb p))) = l.flatMap fun p => (srt R.who ((over now m.own).filter fun r => decide (r.port = p))).map fun r => .tup [.int p, nameV r.who] from h _ fun _ h => h
  intro l hl
  induction l with
  | nil => rfl
  | cons p l ih =>
    rw [List.flatMap_cons, List.flatMap_cons, ih fun q hq => hl q (List.mem_cons_of_mem _ hq)]
    congr 1
    have hp := hl p (List.mem_cons_self ..)
    have hd : (m.nb p).Pairwise fun a b => a.who ≠ b.who := ((h.nb p hp).pairwise_iff (fun {a b} h => Ne.symm h)).mpr (filt_dis h)
    unfold expT
    rw [srt_filter hd]
    congr 1
    refine srt_congr (hd.filter _) (((h.nb p hp).filter _).trans (.of_eq ?_))
    unfold over
    rw [List.filter_filter, List.filter_filter]
    exact List.filter_congr fun r _ => Bool.and_comm _ _
theorem Inv.left (h : Inv g m N) : Inv g (expM now { m with own := left now m.own } []) N where
  psn := h.psn
  wx := h.wx
  wl := h.wl
  ordp := h.ordp
  cw := h.cw
  rows := fun r hr => h.rows r (List.mem_filter.mp hr).1
  uniq := h.uniq.filter _
  nb := fun q hq => by
    show ((m.nb q).filter _).Perm ((Lm.left now m.own).filter _)
    refine ((h.nb q hq).filter _).trans (.of_eq ?_)
    unfold Lm.left
    rw [List.filter_filter, List.filter_filter]
    exact List.filter_congr fun r _ => Bool.and_comm _ _
  nbl := fun q hq => by
    show (((m.nb q).filter _).length : Int) ≤ _
    have := h.nbl q hq
    have := List.length_filter_le (fun x : R => decide (now < x.til)) (m.nb q)
    lia
  len := Nat.le_trans (List.length_filter_le _ _) h.len
theorem Inv.okOver (h : Inv g m N) (hg : GOk g) (hp : p ∈ m.ps) : OkN ((over now m.own).filter fun r => decide (r.port = p)) := by
  have e : (over now m.own).filter (fun r => decide (r.port = p)) = (m.own.filter fun r => decide (r.port = p)).filter fun r => decide (r.til ≤ now) := by
    unfold over
    rw [List.filter_filter, List.filter_filter]
    exact List.filter_congr fun r _ => Bool.and_comm _ _
  rw [e]; exact (h.okO hg hp).filter _
theorem tickF_nn {w f : Int} (h : 0 ≤ f) : 0 ≤ tickF w f := by unfold tickF; split <;> lia
theorem Inv.tick (h : Inv g m N) : Inv g (sntM g (secM g m []) []) N where
  psn := h.psn
  wx := h.wx
  wl := h.wl
  ordp := h.ordp
  cw := fun q hq => by
    have hu : m.up q = true := (h.ordm.mp hq).2
    obtain ⟨a, b, c⟩ := h.cw q hq
    show (if m.up q = true then tickW g (m.aw q) (m.af q) else m.aw q) = tickW g (m.cw q) (m.cf q) ∧ (if m.up q = true then tickF (m.aw q) (m.af q) else m.af q) = tickF (m.cw q) (m.cf q) ∧ 0 ≤ tickF (m.cw q) (m.cf q)
    rw [if_pos hu, if_pos hu, a, b]
    exact ⟨rfl, rfl, tickF_nn c⟩
  rows := h.rows
  uniq := h.uniq
  nb := h.nb
  nbl := h.nbl
  len := h.len
theorem Inv.sent_eq (h : Inv g m N) : sntA m (srt id m.ord) = m.ps.filter (secOn m) := by
  rw [h.ords]
  unfold sntA
  rw [List.filter_filter]
  refine List.filter_congr fun p hp => ?_
  unfold secOn
  cases hu : m.up p with
  | false => simp
  | true =>
    have := (h.cw p (h.ordm.mpr ⟨hp, hu⟩)).1
    simp [this]
noncomputable def f3 (r : R) : PV := .tup [.int r.who, .bytes r.txt.toArray, .int r.sec]
theorem sort_f3 {l : List R} (h : OkN l) : (if sortKind (l.map f3) then (sortL (l.map f3)).map PV.lst else none) = some (.lst ((srt R.who l).map f3)) := by
  have hk : sortKind (l.map f3) = true := by
    unfold sortKind
    rw [Bool.or_eq_true, Bool.or_eq_true]
    refine .inl (.inr ?_)
    rw [List.all_map, List.all_eq_true]
    intro r _
    rfl
  rw [if_pos hk, sortL_key (key := R.who) h.len h.dis fun a b ha hb hn => ?_]
  · rfl
  · show cond (decide (a.who = b.who)) _ _ = _; rw [decide_eq_false hn]; rfl
end

theorem expA_mem {now : Int} {m : M} {l : List Int} {x : PV} (h : x ∈ expA now m l) : plV x = true ∧ dep x ≤ 3 := by
  unfold expA at h
  obtain ⟨p, _, h⟩ := List.mem_flatMap.mp h
  unfold expT at h
  obtain ⟨r, _, rfl⟩ := List.mem_map.mp h
  exact ⟨rfl, by
    have e : dep (nameV r.who) = 2 := rfl
    show max 0 (max (dep (nameV r.who)) 0) + 1 ≤ 3
    lia⟩

section
variable {n : Nat} {σ : St} {g : G} {m : M} {N : Nat} {now : Int}
noncomputable def secLs (g : G) : Ls := [(Str.ofString "agent", agentV g), (Str.ofString "scene", .obj (.d g.kS))]
theorem sec_told (hg : GOk g) (h : Hp g m σ) (hi : Inv g m N) : SQ (n + 71) F_law_second_right.scope (F_law_second_right.body.drop 5) (secLs g) σ (kC (StepQ g N)) := by
  have hx2 : ∀ p ∈ m.ps, (m.ax p).length ≤ 2 := fun p hp => by rw [← hi.wx p hp]; exact hi.wl p hp
  have k1 : (m.ps.filter (secOn m)).length ≤ 1000000 := by
    have := List.length_filter_le (secOn m) m.ps
    have := hi.okP.len
    lia
  refine qAC rfl ?_; refine c1 rfl rfl ?_; refine iE' ?_; refine rMe rfl (by decide) rfl ?_; refine rP rfl ?_; refine ⟨_, MkR.inst rfl rfl, ?_⟩; refine sP rfl ?_
  refine second_ok hg h hi.okP hx2 (fun p hp hu => ?_) fun σ2 h2' => ?_
  · obtain ⟨_, b, c⟩ := hi.cw p (hi.ordm.mpr ⟨hp, hu⟩)
    rw [b]; exact c
  unfold secA
  refine ⟨_, _, rfl, ?_⟩
  refine W_compI (I := Hp g (secM g m [])) (g := fun p => [.tup [.int p, .lst (wordsL [(48 + p).toNat.toUInt8] (m.ax p) (held g))]]) h2' (fun p hp σ hI => ?_) fun σ3 h3 => ?_
  · have hp' := (List.mem_filter.mp hp).1
    refine u0 rfl rfl ?_
    refine rTup ?_; refine sC ?_; refine rP rfl ?_; refine sC ?_; refine rCall rfl rfl ?_; refine sP rfl ?_
    refine unpack_ok (hx2 p hp') hg.held.1 (by have := hg.held.2; lia) fun σ' hx => ?_
    refine sP rfl ?_; refine ⟨Nat.le_of_ble_eq_true rfl, ?_⟩; refine ⟨Nat.le_of_ble_eq_true rfl, ?_⟩; refine ⟨rfl, ?_⟩
    exact ⟨fun x p e => Sub.set rfl x p (Sub.set rfl x p e), hI.ext hx⟩
  rw [flat_one]
  refine ⟨by rw [List.length_map]; exact k1, ?_⟩
  have h1 := h3.scene
  refine qAT rfl ?_; refine sC ?_; refine rSub ?_; refine rP rfl ?_; refine rP rfl ?_; refine ⟨_, sWrd (by assumption), ?_⟩; refine sC ?_; refine rMe rfl (by decide) rfl ?_; refine rP rfl ?_; refine ⟨_, MkR.inst rfl rfl, ?_⟩; refine sP rfl ?_
  refine W_of (timesG_told hg) ?_
  refine sP rfl ?_; refine ⟨Nat.le_of_ble_eq_true rfl, ?_⟩; refine ⟨Nat.le_of_ble_eq_true rfl, ?_⟩; refine gN rfl ?_; refine gN rfl ?_; refine g0 ?_; refine qA rfl rfl ?_; refine rCall rfl rfl ?_; refine sC ?_; refine rSub ?_; refine rP rfl ?_; refine rP rfl ?_; refine ⟨_, sClk (by assumption), ?_⟩; refine sP rfl ?_; refine ⟨Nat.le_of_ble_eq_true rfl, ?_⟩
  refine sent_ok h3 hi.ordl hi.ordn fun σ4 h4 => ?_
  rw [show (sntA (secM g m []) (srt id (secM g m []).ord)).map PV.int = (m.ps.filter (secOn m)).map PV.int by rw [show sntA (secM g m []) (srt id (secM g m []).ord) = sntA m (srt id m.ord) from rfl, hi.sent_eq]]
  have h2 := h4.words
  refine qR ?_; refine rCmp ?_; refine rP rfl ?_; refine rCo ?_; refine c1 rfl rfl ?_; refine iE' ?_; refine rP rfl ?_; refine ⟨_, _, rfl, ?_⟩
  refine W_compM (g := fun p => [.tup [.int p, .lst (wordsL [(48 + p).toNat.toUInt8] (m.wx p) (held g))]]) (fun p hp => ?_) ?_
  · have hp' := (List.mem_filter.mp hp).1
    have pr := hi.pr hp'
    have w1 := vat_map (f := fun q => .bytes (m.wx q).toArray) hp'
    refine u0 rfl rfl ?_
    refine rTup ?_; refine sC ?_; refine rP rfl ?_; refine sC ?_; refine rCall rfl rfl ?_; refine sC ?_; refine rBi rfl rfl ?_; refine sP rfl ?_
    refine ⟨_, byB1 (by lia) (by lia), ?_⟩
    refine sC ?_; refine rSub ?_; refine rP rfl ?_; refine rP rfl ?_; refine ⟨_, subDi (by assumption) (by assumption), ?_⟩; refine sP rfl ?_; refine ⟨Nat.le_of_ble_eq_true rfl, ?_⟩; refine ⟨Nat.le_of_ble_eq_true rfl, ?_⟩
    refine W_of (law_words_ok [(48 + p).toNat.toUInt8] (m.wx p) (held g)) ?_
    refine sP rfl ?_; refine ⟨Nat.le_of_ble_eq_true rfl, ?_⟩; refine ⟨Nat.le_of_ble_eq_true rfl, ?_⟩; refine ⟨rfl, ?_⟩
    exact ⟨Sub.set rfl, rfl⟩
  rw [flat_one]
  refine ⟨by rw [List.length_map]; exact k1, ?_⟩
  rw [show ((m.ps.filter (secOn m)).map fun p => PV.tup [.int p, .lst (wordsL [(48 + p).toNat.toUInt8] (m.wx p) (held g))]) = (m.ps.filter (secOn m)).map fun p => PV.tup [.int p, .lst (wordsL [(48 + p).toNat.toUInt8] (m.ax p) (held g))] from
    List.map_congr_left fun p hp => by rw [hi.wx p (List.mem_filter.mp hp).1]]
  refine ⟨_, eqSelf (plVs_all fun x hx => ?_) (deps_all (k := 99) fun x hx => ?_), rfl, _, h4, hi.tick⟩
  · obtain ⟨r, _, rfl⟩ := List.mem_map.mp hx; rfl
  · obtain ⟨r, _, rfl⟩ := List.mem_map.mp hx
    show max 0 (max (deps (wordsL [(48 + r).toNat.toUInt8] (m.ax r) (held g)) + 1) 0) + 1 ≤ 99
    rw [deps_words]; decide
theorem sec_ports (hg : GOk g) (h : Hp g m σ) (hi : Inv g m N) (hN : N ≤ 500) : SQ (n + 71) F_law_second_right.scope (F_law_second_right.body.drop 4) (secLs g) σ (kC (StepQ g N)) := by
  have h1 := h.scene
  have h2 := h.words
  refine qFo rfl ?_
  refine iE' ?_; refine rSub ?_; refine rP rfl ?_; refine rP rfl ?_; refine ⟨_, sWrd (by assumption), ?_⟩
  refine ⟨_, _, itDi h2, ?_⟩
  rw [List.map_map]
  refine W_loopS (F := PV.int) rfl m.ps (fun p hp => ?_) (sec_told hg h hi)
  have ho := hi.okO hg hp
  have hse := hi.srt_eq hp
  have hw5 : ∀ r ∈ m.own, 0 ≤ r.who ∧ r.who < 5 := fun r hr => (hi.rows r hr).2
  have hle : (m.own.filter fun r => decide (r.port = p)).length ≤ 1000000 := by have := ho.len; lia
  refine qA rfl rfl ?_; refine rSo rfl ?_; refine sC ?_; refine rCo ?_; refine c1 rfl rfl ?_; refine iE' ?_; refine rSub ?_; refine rP rfl ?_; refine rP rfl ?_; refine ⟨_, sOwn (by assumption), ?_⟩; refine ⟨_, _, rfl, ?_⟩
  refine W_compM (g := fun r => if decide (r.port = p) = true then [f3 r] else []) (fun r hr => u1 rfl rfl rfl (fun e => rP rfl ⟨iT e, Sub.set rfl, rfl⟩) fun e => ⟨iF e, Sub.set rfl, rfl⟩) ?_
  rw [flat_filter]
  refine ⟨by rw [List.length_map]; exact hle, ?_⟩
  refine sP rfl ?_; refine ⟨Nat.le_of_ble_eq_true rfl, ?_⟩
  refine ⟨_, _, rfl, soL.trans (sort_f3 ho), ?_⟩
  refine qI' ?_; refine tC ?_; refine rMe rfl (by decide) rfl ?_; refine rP rfl ?_; refine ⟨_, MkR.inst rfl rfl, ?_⟩; refine sP rfl ?_
  refine W_of (nbrs_of_ok h hp (hi.okN hg hp)) ?_
  rw [hse]
  refine rCo ?_; refine c1 rfl rfl ?_; refine iE' ?_; refine rP rfl ?_; refine ⟨_, _, rfl, ?_⟩
  refine W_compM (g := fun r => [.lst (wordsL (ch65 r.who) r.txt r.sec)]) (fun r hr => ?_) ?_
  · have hr' := hw5 r (List.mem_filter.mp (srt_mem.mp hr)).1
    refine u0 rfl rfl ?_
    refine rCall rfl rfl ?_; refine sC ?_; refine rBi rfl rfl ?_; refine sP rfl ?_
    refine ⟨_, byB1 (by lia) (by lia), ?_⟩
    refine sP rfl ?_; refine ⟨Nat.le_of_ble_eq_true rfl, ?_⟩
    refine W_of (law_words_ok [(65 + r.who).toNat.toUInt8] r.txt r.sec) ?_
    refine ⟨rfl, ?_⟩
    exact ⟨fun x p e => Sub.set rfl x p (Sub.set rfl x p (Sub.set rfl x p e)), rfl⟩
  rw [flat_one]
  refine ⟨by rw [List.length_map, srt_len]; exact hle, ?_⟩
  refine ⟨_, neSelf (plVs_all fun x hx => ?_) (deps_all (k := 99) fun x hx => ?_), ?_⟩
  · obtain ⟨r, _, rfl⟩ := List.mem_map.mp hx; rfl
  · obtain ⟨r, _, rfl⟩ := List.mem_map.mp hx
    show deps (wordsL (ch65 r.who) r.txt r.sec) + 1 ≤ 99
    rw [deps_words]; decide
  refine ⟨fun e => bFT e, fun _ => ?_⟩; refine q0 ?_; refine q0 ?_; refine ⟨rfl, ?_⟩
  exact ⟨fun x p e => Sub.set rfl x p (Sub.set rfl x p e), rfl⟩
theorem second_right_ok (hg : GOk g) (h : Hp g m σ) (hi : Inv g m N) (hN : N ≤ 500) : W (callF tbl (n + 72) F_law_second_right [agentV g, .obj (.d g.kS), .int now] σ) (StepQ g N) := by
  have hln : m.own.length ≤ 500 := by have := hi.len; lia
  have l1 : ∀ c : R → Bool, ((m.own.filter c).map rowV).length ≤ 1000000 := fun c => by rw [List.length_map]; exact Nat.le_trans (List.length_filter_le _ _) (by lia)
  have h1 := h.scene
  have h2 := h.words
  refine rC rfl ?_
  refine qAC rfl ?_; refine c1 rfl rfl ?_; refine iE' ?_; refine rSub ?_; refine rP rfl ?_; refine rP rfl ?_; refine ⟨_, sOwn (by assumption), ?_⟩; refine ⟨_, _, rfl, ?_⟩
  refine W_compM (g := fun r => if decide (r.til ≤ now) = true then [rowV r] else []) (fun r hr => u1 rfl rfl rfl (fun e => rP rfl ⟨iT e, Sub.set rfl, rfl⟩) fun e => ⟨iF e, Sub.set rfl, rfl⟩) ?_
  rw [flat_filter]
  refine ⟨l1 _, ?_⟩
  refine qAS rfl ?_; refine rCo ?_; refine c1 rfl rfl ?_; refine iE' ?_; refine rSub ?_; refine rP rfl ?_; refine rP rfl ?_; refine ⟨_, sOwn (by assumption), ?_⟩; refine ⟨_, _, rfl, ?_⟩
  refine W_compM (g := fun r => if decide (now < r.til) = true then [rowV r] else []) (fun r hr => u1 rfl rfl rfl (fun e => rP rfl ⟨iT e, Sub.set rfl, rfl⟩) fun e => ⟨iF e, Sub.set rfl, rfl⟩) ?_
  rw [flat_filter]
  refine ⟨l1 _, ?_⟩
  have hh := h.setOwn (left now m.own)
  have hO : ∀ p ∈ m.ps, OkN ((over now m.own).filter fun r => decide (r.port = p)) := fun p hp => hi.okOver hg hp
  have hR : ∀ r ∈ over now m.own, 0 ≤ r.who ∧ r.who < 5 := fun r hr => (hi.rows r (List.mem_filter.mp hr).1).2
  have hL : (over now m.own).length ≤ 1000 := Nat.le_trans (List.length_filter_le _ _) (by lia)
  have hD : (m.ps.flatMap fun p => (srt R.who ((over now m.own).filter fun r => decide (r.port = p))).map fun r => PV.tup [.int p, nameV r.who]) = expA now m m.ps := hi.due_eq.symm
  have hlD : (expA now m m.ps).length ≤ 1000000 := by
    have := expA_len (m := m) (now := now) (fun p hp => hi.okN hg hp)
    have := hi.okP.len
    lia
  refine rP rfl ?_
  refine rP rfl ?_
  refine ⟨_, stOwn h1, ?_⟩
  change SQ _ _ _ (setL (Str.ofString "over") (.lst ((over now m.own).map rowV)) _) (σ.set (.d g.kS) (some (.ds (sceneE g ((left now m.own).map rowV))))) _
  clear l1 h1 h2
  generalize (σ.set (.d g.kS) (some (.ds (sceneE g ((left now m.own).map rowV))))) = σ0 at hh
  have h1 := hh.scene
  have h2 := hh.words
  refine qAC rfl ?_
  refine c2 rfl rfl rfl ?_
  refine iE' ?_; refine rSo rfl ?_; refine sC ?_; refine rSub ?_; refine rP rfl ?_; refine rP rfl ?_; refine ⟨_, sWrd (by assumption), ?_⟩; refine sP rfl ?_; refine ⟨Nat.le_of_ble_eq_true rfl, ?_⟩
  refine ⟨_, _, rfl, soPorts hi.okP h2, ?_⟩
  refine ⟨_, _, rfl, ?_⟩
  refine W_compM (g := fun p => (srt R.who ((over now m.own).filter fun r => decide (r.port = p))).map fun r => .tup [.int p, nameV r.who]) (fun p hp => ?_) ?_
  · refine u2 rfl rfl ?_
    refine iE' ?_; refine rCall rfl rfl ?_; refine sP rfl ?_
    refine W_of (law_names_ok hR (hO p hp)) ?_
    refine ⟨_, _, rfl, ?_⟩
    refine W_compM (g := fun r => [.tup [.int p, nameV r.who]]) (fun r hr => ?_) ?_
    · refine u0 rfl rfl (rP rfl ⟨rfl, Sub.set rfl, rfl⟩)
    · rw [flat_one]
      exact ⟨rfl, Sub.set rfl, rfl⟩
  rw [hD]
  refine ⟨hlD, ?_⟩
  refine qI' ?_; refine tC ?_; refine rMe rfl (by decide) rfl ?_; refine rP rfl ?_; refine ⟨_, MkR.inst rfl rfl, ?_⟩; refine sP rfl ?_
  refine expire_ok hh hi.okP (fun p hp => hi.okN hg hp) fun σ1 h' => ?_
  have hi' := hi.left (now := now)
  refine rP rfl ?_
  refine ⟨_, neSelf (plVs_all fun x hx => (expA_mem hx).1) (deps_all fun x hx => Nat.le_trans (expA_mem hx).2 (by decide)), ?_⟩
  refine ⟨fun e => bFT e, fun _ => q0 ?_⟩
  refine qW (l1 := secLs g) (Sub.cons rfl (Sub.cons rfl Sub.nil)) ?_
  exact sec_ports hg h' hi' hN
end

section
variable {n : Nat} {σ : St} {g : G} {Q : PV × St → Prop}
theorem pool_rest {c : Int} (hQ : ∀ x y, Q (.obj (.l σ.n), σ.new (.l σ.n) (.lst [.int x, .int y]))) : SQ (n + 15) F_law_pool.scope (F_law_pool.body.drop 2) [(Str.ofString "k", .int 0), (Str.ofString "cell", .int c)] σ (kC Q) := by
  refine qAP rfl rfl rfl ?_; refine qA rfl rfl ?_; refine rBin ?_; refine rBi rfl rfl ?_; refine sC ?_; refine rBin ?_; refine rP rfl ?_; refine rP rfl ?_
  refine ⟨_, bMul (by decide), ?_⟩
  refine sP rfl ?_; refine ⟨Nat.le_of_ble_eq_true rfl, ?_⟩; refine ⟨_, rfl, ?_⟩; refine rP rfl ?_; refine ⟨_, rfl, ?_⟩; refine qR (rLn ?_); refine sC ?_; refine rBin ?_; refine rP rfl ?_; refine rP rfl ?_
  refine ⟨_, bMul (by split <;> decide), ?_⟩
  refine sP rfl ?_; refine ⟨Nat.le_of_ble_eq_true rfl, ?_⟩
  exact hQ _ _
theorem pool_ok {ns : List Int} (hl : ns.length ≤ 63) (hQ : ∀ x y, Q (.obj (.l σ.n), σ.new (.l σ.n) (.lst [.int x, .int y]))) : W (callF tbl (n + 16) F_law_pool [.lst (ns.map PV.int), .int 0] σ) Q := by
  have hl' : (ns.map PV.int).length ≤ 16777216 := by rw [List.length_map]; lia
  refine rC rfl ?_
  refine qAP rfl rfl rfl ?_; refine qI' ?_; refine tC ?_; refine rP rfl ?_; refine rBi rfl rfl ?_; refine sP rfl ?_; refine ⟨_, lenL (by assumption), ?_⟩; refine ⟨_, rfl, ?_⟩
  cases ns with
  | nil =>
    refine ⟨fun e => (nomatch e), fun _ => q0 ?_⟩
    exact qW (l1 := [(Str.ofString "k", .int 0), (Str.ofString "cell", .int 0)]) (Sub.cons rfl (Sub.cons rfl Sub.nil)) (pool_rest hQ)
  | cons c ns =>
    refine ⟨fun _ => ?_, fun e => absurd (of_decide_eq_false e) (by rw [List.length_map, List.length_cons]; lia)⟩
    refine qA rfl rfl (rSub (rP rfl (rP rfl ⟨_, rfl, q0 ?_⟩)))
    exact qW (l1 := [(Str.ofString "k", .int 0), (Str.ofString "cell", .int c)]) (Sub.cons rfl (Sub.cons rfl Sub.nil)) (pool_rest hQ)
theorem add_port_ok (hg : GOk g) {p : Int} {t : List UInt8} {s : Int} {es : List (Int × PV)} (hP : σ.H (.d g.kP) = some (.di es)) (hes : es.length ≤ 1000) (hk : g.kP < σ.n)
    (hQ : ∀ σ', σ'.n = σ.n + 2 → σ'.H (.i σ.n) = some (portV g p t false 0 0 (σ.n + 1)) → σ'.H (.d (σ.n + 1)) = some (.dn []) → σ'.H (.d g.kP) = some (.di (sto es p (.obj (.i σ.n)))) → (∀ q : Loc, q.idx < σ.n → q ≠ .d g.kP → σ'.H q = σ.H q) → Q (.none, σ')) :
    W (callF tbl (n + 26) M_LldpAgent_add_port [agentV g, .int p, .lst (wordsL (ch48 p) t s)] σ) Q := by
  refine rC rfl ?_
  refine qAS rfl ?_; refine rInst rfl rfl ?_; refine sC ?_; refine rCall rfl rfl ?_; refine sC ?_; refine rP rfl ?_; refine sC ?_; refine rMe rfl (by decide) rfl ?_; refine rP rfl ?_; refine ⟨_, MkR.inst rfl rfl, ?_⟩; refine sP rfl ?_
  refine W_of (timesG_told hg) ?_
  refine sP rfl ?_; refine ⟨Nat.le_of_ble_eq_true rfl, ?_⟩; refine ⟨Nat.le_of_ble_eq_true rfl, ?_⟩
  refine W_of (with_time_ok (ch48 p) t s (held g) (by have := hg.held; lia)) ?_
  refine sP rfl ?_; refine ⟨Nat.le_of_ble_eq_true rfl, ?_⟩
  refine rIo rfl ?_
  refine rC rfl ?_
  refine qAA rfl ?_; refine rP rfl ?_; refine rP rfl ?_; refine ⟨_, sattO set_eq rfl, ?_⟩; refine qAA rfl ?_; refine rP rfl ?_; refine rP rfl ?_; refine ⟨_, sattO set_eq rfl, ?_⟩; refine qAA rfl ?_; refine rP rfl ?_; refine rP rfl ?_; refine ⟨_, sattO set_eq rfl, ?_⟩; refine qAA rfl ?_; refine rP rfl ?_; refine rP rfl ?_; refine ⟨_, sattO set_eq rfl, ?_⟩; refine qAA rfl ?_
  refine rDn ?_
  refine rP rfl ?_; refine ⟨_, sattO set_eq rfl, ?_⟩; refine q0 ?_; refine ⟨rfl, ?_⟩; refine rP rfl ?_; refine rP rfl ?_
  have k1 : Loc.d g.kP ≠ Loc.d (σ.n + 1) := dne (by lia)
  refine ⟨_, stoDi (es := es) ((set_ne di).trans ((set_ne (by assumption)).trans (by assumption))) (by lia), ?_⟩
  refine q0 ?_
  refine hQ _ rfl ?_ ?_ set_eq fun q hq hn => ?_
  · exact (set_ne id').trans set_eq
  · exact (set_ne (Ne.symm k1)).trans ((set_ne di).trans new_eq)
  · have q1 : q ≠ .i σ.n := fun e => by rw [e] at hq; exact absurd hq (Nat.lt_irrefl _)
    have q2 : q ≠ .d (σ.n + 1) := fun e => by rw [e] at hq; exact absurd hq (by show ¬ σ.n + 1 < σ.n; lia)
    exact (set_ne hn).trans ((set_ne q1).trans ((new_ne q2).trans ((set_ne q1).trans ((set_ne q1).trans ((set_ne q1).trans ((set_ne q1).trans (new_ne q1)))))))
end

structure Setup (g : G) (m : M) (l : List Int) : Prop where
  ps : m.ps = l
  ord : m.ord = l
  all : ∀ p ∈ l, m.ax p = [] ∧ m.aw p = 0 ∧ m.af p = g.c ∧ m.nb p = [] ∧ m.wx p = [] ∧ m.up p = true ∧ m.cw p = 0 ∧ m.cf p = g.c
  own : m.own = []
theorem Setup.inv {g : G} {m : M} {l : List Int} (h : Setup g m l) (hg : GOk g) (hl : l = [1, 2] ∨ l = [1, 2, 3]) : Inv g m 0 where
  psn := by rw [h.ps]; exact hl
  wx := fun p hp => by rw [h.ps] at hp; obtain ⟨a, _, _, _, b, _⟩ := h.all p hp; rw [a, b]
  wl := fun p hp => by rw [h.ps] at hp; obtain ⟨a, _, _, _, b, _⟩ := h.all p hp; rw [b]; simp
  ordp := by
    rw [h.ps, h.ord, List.filter_eq_self.mpr fun p hp => ?_]
    exact (h.all p hp).2.2.2.2.2.1
  cw := fun p hp => by
    rw [h.ord] at hp
    obtain ⟨_, a, b, _, _, _, c, d⟩ := h.all p hp
    rw [a, b, c, d]
    exact ⟨rfl, rfl, by have := hg.c1; lia⟩
  rows := fun r hr => by rw [h.own] at hr; cases hr
  uniq := by rw [h.own]; exact .nil
  nb := fun p hp => by rw [h.ps] at hp; obtain ⟨_, _, _, a, _⟩ := h.all p hp; rw [a, h.own]; exact .refl _
  nbl := fun p hp => by rw [h.ps] at hp; obtain ⟨_, _, _, a, _⟩ := h.all p hp; rw [a]; have := hg.m1; simp; lia
  len := by rw [h.own]; exact Nat.le_refl _
theorem rng_0 {b : Int} (h0 : 0 ≤ b) (h1 : b ≤ 1000) : rangeL 0 b 1 = some ((List.range b.toNat).map fun i : Nat => .int ((i : Int))) := by
  unfold rangeL
  rw [if_pos ⟨by decide, by decide, by lia, by lia, .inl rfl⟩]
  congr 1
  have e : Builtin.Range.rangeSize 0 b 1 = b := by
    unfold Builtin.Range.rangeSize
    rw [if_pos (by decide)]
    split <;> lia
  rw [e]
  refine List.map_congr_left fun i _ => ?_
  congr 1
  lia

structure SuI (g : G) (tot : List Int) (l : List Int) (σ : St) : Prop where
  ex : ∃ m d, Hp g m σ ∧ Setup g m d ∧ d ++ l = tot
noncomputable def lawL (g : G) : Ls := [(Str.ofString "source", .obj (.l g.s)), (Str.ofString "times", timesG g), (Str.ofString "agent", agentV g), (Str.ofString "scene", .obj (.d g.kS))]
section
variable {n : Nat} {σ : St} {g : G} {p : Int} {tot : List Int}
theorem setup_step {l : List Int} (hg : GOk g) (hd : tot.Nodup) (ht : ∀ q ∈ tot, 1 ≤ q ∧ q ≤ 3) (hl : tot.length ≤ 3) (h : SuI g tot (p :: l) σ) :
    SQ (n + 78) F_law.scope (fB F_law.body) (setL (Str.ofString "port") (.int p) (lawL g)) σ fun x l2 s2 => x.goes = true ∧ Sub (lawL g) l2 ∧ SuI g tot l s2 := by
  obtain ⟨m, d, hp, hs, ht0⟩ := h.ex
  have hpn : p ∉ d := by
    rw [← ht0, List.nodup_append] at hd
    intro hx
    exact hd.2.2 p hx p (List.mem_cons_self ..) rfl
  have hpr := ht p (by rw [← ht0]; simp)
  have hlen : d.length ≤ 3 := by
    have := congrArg List.length ht0
    rw [List.length_append] at this; lia
  have hpn' : p ∉ m.ps := by rw [hs.ps]; exact hpn
  have h1 := hp.scene
  have h2 := hp.words
  have k1 : g.kP ≠ g.kW := by have := hp.o2; have := hp.o3; lia
  refine qAS rfl ?_; refine rP rfl ?_; refine rSub ?_; refine rP rfl ?_; refine rP rfl ?_; refine ⟨_, sWrd (by assumption), ?_⟩; refine rP rfl ?_
  refine ⟨_, stoDi h2 (by rw [List.length_map, hs.ps]; lia), ?_⟩
  refine qX rfl ?_; refine rMe rfl (by decide) rfl ?_; refine rP rfl ?_; refine ⟨_, MkR.inst rfl rfl, ?_⟩; refine sC ?_; refine rP rfl ?_; refine sC ?_; refine rCall rfl rfl ?_; refine sC ?_; refine rBi rfl rfl ?_; refine sP rfl ?_
  refine ⟨_, byB1 (by lia) (by lia), ?_⟩
  refine sP rfl ?_; refine ⟨Nat.le_of_ble_eq_true rfl, ?_⟩
  refine W_of (law_words_ok [(48 + p).toNat.toUInt8] [] 1) ?_
  refine sP rfl ?_; refine ⟨Nat.le_of_ble_eq_true rfl, ?_⟩; refine ⟨Nat.le_of_ble_eq_true rfl, ?_⟩
  have hkP : g.kP < σ.n := by have := hp.o2; have := hp.o3; have := hp.o4; have := hp.o5; lia
  have hkW : g.kW < σ.n := by have := hp.o4; have := hp.o5; lia
  refine add_port_ok hg (t := []) (s := 1) (es := m.ps.map fun q => (q, .obj (.i (m.pl q)))) ((set_ne (dne k1)).trans hp.ports) (by rw [List.length_map, hs.ps]; lia) hkP fun σ1 f1 f2 f3 f4 f5 => ?_
  have hnew := hp.newPort (p := p) (σ' := σ1) (l := σ.n + 1) (k := σ.n) (x := []) (u := false) (w := 0) (f := 0) hpn' ⟨by lia, by rw [f1]; show _ < σ.n + 2; lia⟩ ⟨by lia, by rw [f1]; show _ < σ.n + 2; lia⟩
    (fun q hq hq1 hq2 => (f5 q hq hq1).trans (set_ne hq2)) f2 f3
    (by
      rw [f4, sto_map (f := fun q => .obj (.i (m.pl q)))]
      unfold addP
      rw [if_neg hpn']
      congr 2
      refine List.map_congr_left fun q _ => ?_
      unfold fu; split <;> rfl)
    (by
      rw [f5 (.d g.kW) hkW (dne (Ne.symm k1)), set_eq, sto_map (f := fun q => .bytes (m.wx q).toArray)]
      unfold addP
      rw [if_neg hpn']
      congr 2
      refine List.map_congr_left fun q _ => ?_
      unfold fu; split <;> rfl)
  have hpm : p ∈ m.ps ++ [p] := by simp
  refine qX rfl ?_; refine rMe rfl (by decide) rfl ?_; refine rP rfl ?_; refine ⟨_, MkR.inst rfl rfl, ?_⟩; refine sP rfl ?_
  refine link_up_ok agHp hnew hpm fun σ2 h2 => ?_
  have h1 := h2.scene
  refine qX rfl ?_; refine rCall rfl rfl ?_; refine sC ?_; refine rSub ?_; refine rP rfl ?_; refine rP rfl ?_; refine ⟨_, sClk (by assumption), ?_⟩; refine sP rfl ?_; refine ⟨Nat.le_of_ble_eq_true rfl, ?_⟩
  refine law_hurry_ok h2 (by show m.ord.length ≤ 3; rw [hs.ord]; exact hlen) fun σ3 h3 => ?_
  refine q0 ?_; refine ⟨rfl, ?_⟩
  have hso : addP m.ord p = d ++ [p] := by unfold addP; rw [hs.ord, if_neg hpn]
  refine ⟨Sub.set rfl, ⟨_, d ++ [p], h3, ⟨?_, ?_, fun q hq => ?_, hs.own⟩, by rw [List.append_assoc]; exact ht0⟩⟩
  · show m.ps ++ [p] = _; rw [hs.ps]
  · exact hso
  · show fu (fu m.ax p []) p (fu m.ax p [] p) q = [] ∧ fu (fu m.aw p 0) p 0 q = 0 ∧ fu (fu m.af p 0) p g.c q = g.c ∧ fu m.nb p [] q = [] ∧ fu m.wx p [] q = [] ∧ fu (fu m.up p false) p true q = true ∧ fu m.cw p 0 q = 0 ∧ fu m.cf p g.c q = g.c
    by_cases e : q = p
    · subst e; simp only [fu_same, and_self]
    · have hq' : q ∈ d := by simpa [e] using hq
      simp only [fu_ne e]
      exact hs.all q hq'
end

noncomputable def skF : List Stmt → List Stmt
  | [] => []
  | .For .. :: r => r
  | _ :: r => skF r
structure MaI (g : G) (l : List Nat) (σ : St) : Prop where
  ex : ∃ m N, Hp g m σ ∧ Inv g m N ∧ N + l.length ≤ 500
section
variable {n : Nat} {σ : St} {g : G}
theorem main_step {i : Nat} {l : List Nat} (hg : GOk g) (h : MaI g (i :: l) σ) :
    SQ (n + 78) F_law.scope (fB (skF F_law.body)) (setL (Str.ofString "now") (.int (i : Int)) (lawL g)) σ fun x l2 s2 => x.goes = true ∧ Sub (lawL g) l2 ∧ MaI g l s2 := by
  obtain ⟨m, N, hp, hi, hN⟩ := h.ex
  rw [List.length_cons] at hN
  obtain ⟨⟨v, σ1⟩, e1, hv, m1, hp1, hi1⟩ := step_ok (n := n) (now := i) hg hp hi (by lia)
  obtain ⟨⟨v', σ2⟩, e2, hv', m2, hp2, hi2⟩ := second_right_ok (n := n) (now := i) hg hp1 hi1 (by lia)
  dsimp only at hv hv' hp2
  subst hv hv'
  refine qI' ?_; refine tOr ?_; refine tN ?_; refine tV rfl ?_; refine rCall rfl rfl ?_; refine sP rfl ?_
  refine W_of e1 ?_
  refine ⟨_, rfl, ?_⟩; refine ⟨fun e => bFT e, fun _ => ?_⟩; refine tOne ?_; refine tN ?_; refine tV rfl ?_; refine rCall rfl rfl ?_; refine sP rfl ?_
  refine W_of e2 ?_
  refine ⟨_, rfl, ?_⟩; refine ⟨fun e => bFT e, fun _ => ?_⟩; refine q0 ?_; refine q0 ?_; refine ⟨rfl, ?_⟩
  exact ⟨Sub.set rfl, ⟨m2, N + 1, hp2, hi2, by lia⟩⟩
end

noncomputable def m0 : M := ⟨[], fun _ => 0, fun _ => [], fun _ => false, fun _ => 0, fun _ => 0, fun _ => 0, fun _ => [], fun _ => [], [], fun _ => 0, fun _ => 0, fun _ => 0, []⟩
noncomputable def SrcS (s : Nat) (σ : St) : Prop := ∃ x y, σ.H (.l s) = some (.lst [.int x, .int y])
theorem rng_p2 : rangeA [.int 1, .int 3] = some ([1, 2].map PV.int) := rfl
theorem rng_p3 : rangeA [.int 1, .int 4] = some ([1, 2, 3].map PV.int) := rfl
section
variable {n : Nat} {σ : St} {Q : PV × St → Prop}
theorem take_s {s : Nat} {top : Int} (h : SrcS s σ) (h1 : 1 ≤ top) (h2 : top ≤ 1000) (hQ : ∀ d σ', 0 ≤ d → d < top → SrcS s σ' → σ'.n = σ.n → (∀ q, q ≠ .l s → σ'.H q = σ.H q) → Q (.int d, σ')) : W (callF tbl (n + 12) F_law_take [.obj (.l s), .int top] σ) Q :=
  let ⟨_, _, hs⟩ := h; take_raw hs h1 h2 fun d x y a b => hQ d _ a b ⟨x, y, set_eq⟩ rfl fun q hq => set_ne hq
theorem times_new {a b c : Int} (hQ : ∀ σ', Ext0 σ σ' → σ'.n = σ.n + 1 → Q (timesV a b c, σ')) : W (inst tbl (n + 20) (Str.ofString "LldpTimes") [.int a, .int b, .int 1, .int c] σ) Q := by
  refine rIz rfl (rC rfl ?_)
  refine qAA rfl ?_; refine rP rfl ?_; refine rP rfl ?_; refine ⟨_, sattO set_eq rfl, ?_⟩; refine qAA rfl ?_; refine rP rfl ?_; refine rP rfl ?_; refine ⟨_, sattO set_eq rfl, ?_⟩; refine qAA rfl ?_; refine rP rfl ?_; refine rP rfl ?_; refine ⟨_, sattO set_eq rfl, ?_⟩; refine qAA rfl ?_; refine rP rfl ?_; refine rP rfl ?_; refine ⟨_, sattO set_eq rfl, ?_⟩; refine q0 ?_; refine ⟨rfl, ?_⟩
  refine ⟨_, _, _, set_eq, hQ _ ⟨Nat.le_succ _, fun q hq => ?_⟩ rfl⟩
  have e : q ≠ .i σ.n := fun e => by rw [e] at hq; exact absurd hq (Nat.lt_irrefl _)
  exact (drop_ne e).trans ((set_ne e).trans ((set_ne e).trans ((set_ne e).trans ((set_ne e).trans (new_ne e)))))
theorem agent_new {t : PV} {most : Int} (hQ : ∀ σ', Ext0 σ σ' → σ'.n = σ.n + 2 → σ'.H (.d (σ.n + 1)) = some (.di []) → Q (.inst (Str.ofString "LldpAgent") [Str.ofString "mac", Str.ofString "times", Str.ofString "most", Str.ofString "ports"] [.int 9, t, .int most, .obj (.d (σ.n + 1))], σ')) : W (inst tbl (n + 20) (Str.ofString "LldpAgent") [.int 9, t, .int most] σ) Q := by
  refine rIz rfl (rC rfl ?_)
  refine qAA rfl ?_; refine rP rfl ?_; refine rP rfl ?_; refine ⟨_, sattO set_eq rfl, ?_⟩; refine qAA rfl ?_; refine rP rfl ?_; refine rP rfl ?_; refine ⟨_, sattO set_eq rfl, ?_⟩; refine qAA rfl ?_; refine rP rfl ?_; refine rP rfl ?_; refine ⟨_, sattO set_eq rfl, ?_⟩; refine qAA rfl ?_
  refine rDi ?_
  refine rP rfl ?_; refine ⟨_, sattO set_eq rfl, ?_⟩; refine q0 ?_; refine ⟨rfl, ?_⟩
  refine ⟨_, _, _, set_eq, hQ _ ⟨Nat.le_add_right σ.n 2, fun q hq => ?_⟩ rfl ?_⟩
  · have e : q ≠ .i σ.n := fun e => by rw [e] at hq; exact absurd hq (Nat.lt_irrefl _)
    have e2 : q ≠ .d (σ.n + 1) := fun e => by rw [e] at hq; exact absurd hq (by show ¬ σ.n + 1 < σ.n; lia)
    exact (drop_ne e).trans ((set_ne e).trans ((new_ne e2).trans ((set_ne e).trans ((set_ne e).trans ((set_ne e).trans (new_ne e))))))
  · exact (drop_ne di).trans ((set_ne di).trans new_eq)
theorem SrcS.ext {s : Nat} {σ σ' : St} (h : SrcS s σ) (e : Ext0 σ σ') (hs : s < σ.n) : SrcS s σ' := let ⟨x, y, h⟩ := h; ⟨x, y, (e.2 (.l s) hs).trans h⟩
theorem rD3 {sc : Scope} {ls : Ls} {K : PV → St → Prop} {k1 k2 k3 : Str} {i1 i2 i3 : Nat} {q1 q2 q3 pos : Pos} {e1 e2 e3 : Expr} (hk : k1 ≠ k2 ∧ k1 ≠ k3 ∧ k2 ≠ k3) (h : E n sc e1 ls σ fun a1 σ => E n sc e2 ls σ fun a2 σ => E n sc e3 ls σ fun a3 σ => K (.obj (.d σ.n)) (σ.new (.d σ.n) (.ds [(k1, a1), (k2, a2), (k3, a3)]))) :
    E (n + 1) sc (.Dict [some (.Constant (.str k1) i1 q1), some (.Constant (.str k2) i2 q2), some (.Constant (.str k3) i3 q3)] [e1, e2, e3] pos) ls σ K := by
  obtain ⟨_, _, h1, _, _, h2, _, _, h3, k⟩ := h; exact ⟨_, _, EvR.dict3 hk h1 h2 h3, k⟩
theorem law_rest {g : G} (hg : GOk g) (q1 : SrcS g.s σ) (hp : ∀ σ', SrcS g.s σ' → σ'.n = σ.n → (∀ q, q ≠ .l g.s → σ'.H q = σ.H q) → Hp g m0 σ') : SQ (n + 79) F_law.scope (F_law.body.drop 5) (lawL g) σ (kC fun r => r.1 = .bool true) := by
  refine qFo rfl ?_; refine iR rfl ?_; refine sC ?_; refine rP rfl ?_; refine sC ?_; refine rBin ?_; refine rP rfl ?_; refine rCall rfl rfl ?_; refine sP rfl ?_
  refine take_s q1 (by decide) (by decide) fun d5 σ7 k0 k1 q10 r10 t10 => ?_
  replace hp := hp σ7 q10 r10 t10
  obtain ⟨tot, hr, htot⟩ : ∃ tot : List Int, rangeA [.int 1, .int (3 + d5)] = some (tot.map PV.int) ∧ (tot = [1, 2] ∨ tot = [1, 2, 3]) := by
    have : d5 = 0 ∨ d5 = 1 := by lia
    rcases this with e | e <;> subst e
    · exact ⟨[1, 2], rng_p2, .inl rfl⟩
    · exact ⟨[1, 2, 3], rng_p3, .inr rfl⟩
  refine ⟨_, rfl, ?_⟩; refine sP rfl ?_; refine ⟨Nat.le_of_ble_eq_true rfl, ?_⟩; refine ⟨Nat.le_of_ble_eq_true rfl, ?_⟩
  refine ⟨_, hr, ?_⟩
  have n1 : tot.Nodup := by rcases htot with e | e <;> rw [e] <;> decide
  have n2 : ∀ q ∈ tot, 1 ≤ q ∧ q ≤ 3 := by rcases htot with e | e <;> rw [e] <;> decide
  have n3 : tot.length ≤ 3 := by rcases htot with e | e <;> rw [e] <;> decide
  refine W_loopC (L := lawL g) (I := SuI g tot) rfl (fun p l σ hi => setup_step hg n1 n2 n3 hi) (fun σ8 hi => ?_) tot σ7 ⟨m0, [], hp, ⟨rfl, rfl, fun p hp => (by cases hp), rfl⟩, rfl⟩
  obtain ⟨m, d, hp, hs, hd⟩ := hi.ex
  rw [List.append_nil] at hd
  subst hd
  have hin := hs.inv hg htot
  refine qFo rfl ?_; refine iR rfl ?_; refine sC ?_; refine rBin ?_; refine rP rfl ?_; refine rCall rfl rfl ?_; refine sP rfl ?_
  refine take_ok hp (by decide) (by decide) fun d6 σ9 k0 k1 hp' => ?_
  refine ⟨_, rfl, ?_⟩; refine sP rfl ?_; refine ⟨Nat.le_of_ble_eq_true rfl, ?_⟩
  refine ⟨_, rng_0 (by lia) (by lia), ?_⟩
  refine W_loopC (L := lawL g) (I := MaI g) (F := fun i : Nat => PV.int (i : Int)) rfl (fun i l σ hi => main_step hg hi) (fun σ10 _ => ?_) _ σ9 ⟨m, 0, hp', hin, by rw [List.length_range]; lia⟩
  refine qRP rfl ?_
  rfl
theorem law_ok {ns : List Int} (hl : ns.length ≤ 63) (hfx : ∃ σ1, callF tbl (n + 75) F_law_fixed_right [] σ (.bool true, σ1)) : W (callF tbl (n + 80) F_law [.lst (ns.map .int)] σ) fun r => r.1 = .bool true := by
  obtain ⟨σ1, hfx⟩ := hfx
  refine rC rfl ?_
  refine qI' ?_; refine tN ?_; refine tV rfl ?_; refine rCall rfl rfl ?_; refine sP rfl ?_
  refine W_of hfx ?_
  refine ⟨_, rfl, ?_⟩; refine ⟨fun e => bFT e, fun _ => ?_⟩; refine q0 ?_; refine qA rfl rfl ?_; refine rCall rfl rfl ?_; refine sP rfl ?_
  refine pool_ok hl fun x y => ?_
  clear hfx
  have q1 : SrcS σ1.n (σ1.new (.l σ1.n) (.lst [.int x, .int y])) := ⟨x, y, new_eq⟩
  have q2 : (σ1.new (.l σ1.n) (.lst [.int x, .int y])).n = σ1.n + 1 := rfl
  generalize σ1.new (.l σ1.n) (.lst [.int x, .int y]) = σ2 at q1 q2
  generalize σ1.n = s at q1 q2
  refine qA rfl rfl ?_; refine rInst rfl rfl ?_; refine sC ?_; refine rBin ?_; refine rP rfl ?_; refine rCall rfl rfl ?_; refine sP rfl ?_
  refine take_s q1 (by decide) (by decide) fun d1 σ3 a0 a1 q3 r3 _ => ?_
  refine ⟨_, rfl, ?_⟩; refine sC ?_; refine rBin ?_; refine rP rfl ?_; refine rCall rfl rfl ?_; refine sP rfl ?_
  refine take_s q3 (by decide) (by decide) fun d2 σ4 b0 b1 q4 r4 _ => ?_
  refine ⟨_, rfl, ?_⟩; refine sC ?_; refine rP rfl ?_; refine sC ?_; refine rBin ?_; refine rP rfl ?_; refine rCall rfl rfl ?_; refine sP rfl ?_
  refine take_s q4 (by decide) (by decide) fun d3 σ5 c0 c1 q5 r5 _ => ?_
  refine ⟨_, rfl, ?_⟩; refine sP rfl ?_; refine ⟨Nat.le_of_ble_eq_true rfl, ?_⟩; refine ⟨Nat.le_of_ble_eq_true rfl, ?_⟩; refine ⟨Nat.le_of_ble_eq_true rfl, ?_⟩; refine ⟨Nat.le_of_ble_eq_true rfl, ?_⟩
  refine times_new fun σ6 x6 r6 => ?_
  have r : σ5.n = s + 1 := r5.trans (r4.trans (r3.trans q2))
  have q6 := q5.ext x6 (r ▸ Nat.lt_succ_self s)
  refine qA rfl rfl ?_; refine rInst rfl rfl ?_; refine sC ?_; refine rP rfl ?_; refine sC ?_; refine rP rfl ?_; refine sC ?_; refine rBin ?_; refine rP rfl ?_; refine rCall rfl rfl ?_; refine sP rfl ?_
  refine take_s q6 (by decide) (by decide) fun d4 σ7 e0 e1 q7 r7 _ => ?_
  refine ⟨_, rfl, ?_⟩; refine sP rfl ?_; refine ⟨Nat.le_of_ble_eq_true rfl, ?_⟩; refine ⟨Nat.le_of_ble_eq_true rfl, ?_⟩; refine ⟨Nat.le_of_ble_eq_true rfl, ?_⟩
  refine agent_new fun σ8 x8 r8 f8 => ?_
  have hn : σ7.n = s + 2 := r7.trans (r6.trans (congrArg (· + 1) r))
  have q8 := q7.ext x8 (hn ▸ Nat.lt_succ_of_lt (Nat.lt_succ_self s))
  have hn8 : σ8.n = s + 4 := r8.trans (congrArg (· + 2) hn)
  rw [hn] at f8 ⊢
  clear q1 q2 q3 r3 q4 r4 q5 r5 x6 r6 q6 q7 r7 x8 r8
  refine qA rfl rfl ?_
  refine rD3 (by decide) ?_
  refine rP rfl ?_
  refine rDi ?_
  refine rDi ?_
  have q9 : SrcS s (((σ8.new (.d σ8.n) (.di [])).new (.d (σ8.n + 1)) (.di [])).new (.d (σ8.n + 1 + 1)) (.ds [(Str.ofString "own", .lst []), (Str.ofString "clocks", .obj (.d σ8.n)), (Str.ofString "words", .obj (.d (σ8.n + 1)))])) := let ⟨x, y, h⟩ := q8; ⟨x, y, (new_ne ld).trans ((new_ne ld).trans ((new_ne ld).trans h))⟩
  refine qW (l1 := lawL ⟨2 + d1, 1 + d2, 1 + d3, 1 + d4, s, s + 2 + 1, σ8.n, σ8.n + 1, σ8.n + 1 + 1⟩) (Sub.cons rfl (Sub.cons rfl (Sub.cons rfl (Sub.cons rfl Sub.nil)))) (law_rest ?_ q9 fun σ10 q10 r10 t10 => ?_)
  · have c2 : ∀ {k d m : Int}, d < 4 → k + 4 ≤ m → k + d ≤ m := fun h h1 => Int.le_trans (Int.add_le_add_left (Int.le_of_lt h) _) h1
    have l1 : ∀ {d m : Int}, d < m → 1 + d ≤ m := fun h => by rw [Int.add_comm]; exact h
    exact ⟨Int.le_add_of_nonneg_right a0, c2 a1 (by decide), Int.le_add_of_nonneg_right b0, l1 b1, Int.le_add_of_nonneg_right c0, Int.le_trans (l1 c1) (by decide), Int.le_add_of_nonneg_right e0, l1 e1⟩
  · replace r10 : σ10.n = σ8.n + 1 + 1 + 1 := r10
    have l3 : s + 2 + 1 < σ8.n := hn8 ▸ Nat.lt_succ_self (s + 3)
    refine ⟨q10, ?_, fun p hp => (nomatch hp), fun p hp => (nomatch hp), ?_, ?_, ?_, fun p hp => (nomatch hp), Nat.lt_succ_of_le (Nat.le_add_right s 2), l3, Nat.lt_succ_self _, Nat.lt_succ_self _, r10 ▸ Nat.lt_succ_self _, fun p hp => (nomatch hp), fun p hp => (nomatch hp), fun p hp => (nomatch hp), fun p hp => (nomatch hp), fun p hp => (nomatch hp), fun p hp => (nomatch hp)⟩
    · exact (t10 _ dl).trans ((new_ne (dne (Nat.ne_of_lt (Nat.lt_succ_of_lt (Nat.lt_succ_of_lt l3))))).trans ((new_ne (dne (Nat.ne_of_lt (Nat.lt_succ_of_lt l3)))).trans ((new_ne (dne (Nat.ne_of_lt l3))).trans f8)))
    · exact (t10 _ dl).trans new_eq
    · exact (t10 _ dl).trans ((new_ne (dne (Nat.ne_of_lt (Nat.lt_succ_self _)))).trans new_eq)
    · exact (t10 _ dl).trans ((new_ne (dne (Nat.ne_of_lt (Nat.lt_succ_of_lt (Nat.lt_succ_self _))))).trans ((new_ne (dne (Nat.ne_of_lt (Nat.lt_succ_self _)))).trans new_eq))
end

section
variable {n : Nat} {σ : St} {Q : PV × St → Prop}
theorem times0 (hQ : ∀ σ', σ'.n = σ.n + 1 → Q (timesV 30 4 4, σ')) : W (inst tbl (n + 20) (Str.ofString "LldpTimes") [] σ) Q := by
  refine rIz rfl (rC rfl ?_)
  refine qAA rfl ?_; refine rP rfl ?_; refine rP rfl ?_; refine ⟨_, sattO set_eq rfl, ?_⟩; refine qAA rfl ?_; refine rP rfl ?_; refine rP rfl ?_; refine ⟨_, sattO set_eq rfl, ?_⟩; refine qAA rfl ?_; refine rP rfl ?_; refine rP rfl ?_; refine ⟨_, sattO set_eq rfl, ?_⟩; refine qAA rfl ?_; refine rP rfl ?_; refine rP rfl ?_; refine ⟨_, sattO set_eq rfl, ?_⟩; refine q0 ?_; refine ⟨rfl, ?_⟩
  exact ⟨_, _, _, set_eq, hQ _ rfl⟩
/-- the heap of an agent alone, with one port -/
structure Fx (g : G) (m : M) (σ : St) : Prop where
  ps : m.ps = [1]
  ports : σ.H (.d g.kP) = some (.di [(1, .obj (.i (m.pl 1)))])
  port : σ.H (.i (m.pl 1)) = some (portV g 1 (m.ax 1) (m.up 1) (m.aw 1) (m.af 1) (m.nl 1))
  nbr : σ.H (.d (m.nl 1)) = some (.dn ((m.nb 1).map nbrE))
  n1 : g.kP < σ.n
  n2 : m.pl 1 < σ.n
  n3 : m.nl 1 < σ.n
  n4 : g.kP ≠ m.nl 1
variable {g : G} {m : M}
theorem Fx.at {p : Int} (h : Fx g m σ) (hp : p ∈ m.ps) : p = 1 := by rw [h.ps] at hp; simpa using hp
theorem agFx : Ag g (Fx g) where
  ports h := by rw [h.ps]; exact h.ports
  port h p hp := by rw [h.at hp]; exact h.port
  nbr h p hp := by rw [h.at hp]; exact h.nbr
  ext h e := ⟨h.ps, (e.2 (.d g.kP) h.n1).trans h.ports, (e.2 (.i _) h.n2).trans h.port, (e.2 (.d _) h.n3).trans h.nbr, Nat.lt_of_lt_of_le h.n1 e.1, Nat.lt_of_lt_of_le h.n2 e.1, Nat.lt_of_lt_of_le h.n3 e.1, h.n4⟩
  setPort h hp x u w f := by
    have e := h.at hp
    subst e
    refine ⟨h.ps, (set_ne di).trans h.ports, ?_, (set_ne di).trans h.nbr, h.n1, h.n2, h.n3, h.n4⟩
    dsimp only [M.port]
    rw [fu_same, fu_same, fu_same, fu_same]
    exact set_eq
  setNb h hp l := by
    have e := h.at hp
    subst e
    refine ⟨h.ps, (set_ne (dne h.n4)).trans h.ports, (set_ne id').trans h.port, ?_, h.n1, h.n2, h.n3, h.n4⟩
    dsimp only
    rw [fu_same]
    exact set_eq
theorem okN0 : OkN [] := ⟨by simp, .nil, fun r hr => by cases hr⟩
theorem okN1 {r : R} (h : 0 ≤ r.who ∧ r.who < 5) : OkN [r] := ⟨by simp, by simp, fun x hx => by rw [List.mem_singleton.mp hx]; exact h⟩
noncomputable def gF (k : Nat) : G := ⟨30, 4, 4, 1, 0, k, 0, 0, 0⟩
noncomputable def mF (k : Nat) : M := ⟨[1], fun _ => k, fun _ => [], fun _ => false, fun _ => 0, fun _ => 0, fun _ => k + 1, fun _ => [], fun _ => [], [], fun _ => 0, fun _ => 0, fun _ => 0, []⟩
noncomputable def mG (c : Nat) (l : List R) : M := ⟨[1], fun _ => c, fun _ => [], fun _ => true, fun _ => 0, fun _ => 4, fun _ => c + 1, fun _ => l, fun _ => [], [], fun _ => 0, fun _ => 0, fun _ => 0, []⟩
theorem okF {k : Nat} : GOk (gF k) := by constructor <;> (unfold gF; dsimp only; decide)
theorem fixed_ok : ∃ σ1, callF tbl (n + 75) F_law_fixed_right [] σ (.bool true, σ1) := by
  suffices h : W (callF tbl (n + 75) F_law_fixed_right [] σ) fun r => r.1 = .bool true by
    obtain ⟨⟨v, σ1⟩, h1, e⟩ := h
    cases e
    exact ⟨σ1, h1⟩
  refine rC rfl ?_
  refine qA rfl rfl ?_; refine rInst rfl rfl ?_; refine sC ?_; refine rP rfl ?_; refine sC ?_; refine rInst rfl rfl ?_; refine sP rfl ?_
  refine times0 fun σ1 r1 => ?_
  refine sP rfl ?_; refine ⟨Nat.le_of_ble_eq_true rfl, ?_⟩; refine ⟨Nat.le_of_ble_eq_true rfl, ?_⟩
  refine agent_new fun σ2 _ r2 f2 => ?_
  have hn : σ1.n + 1 < σ2.n := by lia
  generalize σ1.n + 1 = k at f2 hn
  clear r1 r2
  refine qX rfl ?_; refine rMe rfl (by decide) rfl ?_; refine rP rfl ?_; refine ⟨_, MkR.inst rfl rfl, ?_⟩; refine sC ?_; refine rP rfl ?_; refine sC ?_; refine rCall rfl rfl ?_; refine sP rfl ?_
  refine W_of (law_words_ok [49] [] 1) ?_
  refine sP rfl ?_; refine ⟨Nat.le_of_ble_eq_true rfl, ?_⟩; refine ⟨Nat.le_of_ble_eq_true rfl, ?_⟩
  refine add_port_ok (g := gF k) okF (t := []) (s := 1) (es := []) f2 (by decide) hn fun σ3 r3 a1 a2 a3 _ => ?_
  have hF : Fx (gF k) (mF σ2.n) σ3 := ⟨rfl, a3, a1, a2, by show k < _; lia, by show σ2.n < _; lia, by show σ2.n + 1 < _; lia, by show k ≠ σ2.n + 1; lia⟩
  generalize σ2.n = c at hF
  clear f2 hn r3 a1 a2 a3
  refine qW (l1 := [(Str.ofString "agent", agentV (gF k))]) (Sub.cons rfl Sub.nil) ?_
  refine qX rfl ?_; refine rMe rfl (by decide) rfl ?_; refine rP rfl ?_; refine ⟨_, MkR.inst rfl rfl, ?_⟩; refine sP rfl ?_
  refine link_up_ok agFx hF (List.mem_singleton.mpr rfl) fun σ4 h4 => ?_
  refine qAP rfl rfl rfl ?_; refine qR ?_; refine rCmp ?_; refine rCo ?_; refine c1 rfl rfl ?_; refine iE' ?_; refine rP rfl ?_; refine ⟨_, _, rfl, ?_⟩; refine cC ?_; refine u0 rfl rfl ?_; refine rCall rfl rfl ?_; refine sP rfl ?_
  replace h4 : Fx (gF k) (mG c []) σ4 := ⟨rfl, h4.ports, h4.port, h4.nbr, h4.n1, h4.n2, h4.n3, h4.n4⟩
  refine lh_new (w := 0) (s := 5) (t := [97]) agFx h4 (List.mem_singleton.mpr rfl) okN0 rfl (by decide) (by decide) (by decide) (by decide) rfl (by decide) (by show ¬ (1 : Int) ≤ 0; decide) fun σ5 h5 => ?_
  replace h5 : Fx (gF k) (mG c [⟨1, 0, [97], 5, 0 + 5⟩]) σ5 := ⟨rfl, h5.ports, h5.port, h5.nbr, h5.n1, h5.n2, h5.n3, h5.n4⟩
  refine ⟨_, rfl, Sub.rfl, ?_⟩; refine cC ?_; refine u0 rfl rfl ?_; refine rCall rfl rfl ?_; refine sP rfl ?_
  refine lh_full (w := 1) (s := 5) (t := [97]) agFx h5 (List.mem_singleton.mpr rfl) (okN1 (by decide)) rfl (by decide) (by decide) (by decide) (by decide) rfl (by decide) (by show (1 : Int) ≤ 1; decide) fun σ6 h6 => ?_
  refine ⟨_, rfl, Sub.rfl, ?_⟩; refine cC ?_; refine u0 rfl rfl ?_; refine rCall rfl rfl ?_; refine sP rfl ?_
  refine lh_gone (w := 0) (s := 0) (t := [97]) agFx h6 (List.mem_singleton.mpr rfl) (okN1 (by decide)) rfl (by decide) (by decide) (by decide) (by decide) rfl rfl fun σ7 h7 => ?_
  replace h7 : Fx (gF k) (mG c []) σ7 := ⟨rfl, h7.ports, h7.port, h7.nbr, h7.n1, h7.n2, h7.n3, h7.n4⟩
  refine ⟨_, rfl, Sub.rfl, ?_⟩; refine cC ?_; refine u0 rfl rfl ?_; refine rCall rfl rfl ?_; refine sP rfl ?_
  refine lh_new (w := 1) (s := 5) (t := [97]) agFx h7 (List.mem_singleton.mpr rfl) okN0 rfl (by decide) (by decide) (by decide) (by decide) rfl (by decide) (by show ¬ (1 : Int) ≤ 0; decide) fun σ8 h8 => ?_
  clear h4 h5 h6 h7 h8
  refine ⟨_, rfl, Sub.rfl, ?_⟩; refine cN ?_; refine ⟨Nat.le_of_ble_eq_true rfl, ?_⟩; refine rP rfl ?_; refine ⟨_, rfl, ?_⟩
  rfl
theorem law_any {ns : List Int} (hl : ns.length ≤ 63) : ∃ σ', callF tbl 80 F_law [.lst (ns.map .int)] σ (.bool true, σ') := by
  obtain ⟨⟨v, σ'⟩, e, hv⟩ := law_ok (n := 0) (σ := σ) hl fixed_ok
  cases hv
  exact ⟨σ', e⟩
end

end Lm
end
section
open PySem PySem.W PyProof.Rows
set_option Elab.async false
set_option autoImplicit false
set_option linter.unusedVariables false
set_option maxRecDepth 100000
set_option tactic.hygienic false
namespace Lm
noncomputable def fdAt (K : Frag) (a : Addr) : FuncData := match K.lookup a with
  | some ⟨_, _, .func fd, _⟩ => fd
  | _ => ⟨"", "", ⟨[], [], none, [], [], none, []⟩, .stmts [], ⟨.function, [], false, false, []⟩, 0, [], .none, .none, .none, .none, none, .none, .none, 0⟩
noncomputable def isFd (K : Frag) (a : Addr) : Bool := match K.lookup a with
  | some ⟨_, _, .func _, _⟩ => true
  | _ => false
set_option tactic.hygienic true in
theorem fdAt_of {K : Frag} {a : Addr} (h : isFd K a = true) : ∃ oc od osl, K.lookup a = some ⟨oc, od, .func (fdAt K a), osl⟩ := by
  unfold isFd at h
  split at h
  · rename_i oc od fd osl e
    refine ⟨oc, od, osl, ?_⟩
    unfold fdAt; rw [e]
  · cases h
noncomputable def fnChk (F : Fn) : Bool := F.scope.isCoroutine == false && F.scope.isGenerator == false && F.scope.kind == .function && decide F.params.Nodup && F.params.all (fun x => F.scope.names.lookup x == some .local || F.scope.names.lookup x == some .cell) && F.scope.names.all (fun x => x.2 != .free)
noncomputable def caK (K : Frag) (C : Str) : Addr := match nsIn K mainGlobals C with
  | some (some (.ref a)) => a
  | _ => 0
noncomputable def fnArgs : Stmt → Arguments
  | .FunctionDef _ args _ _ _ _ _ _ _ _ => args
  | _ => ⟨[], [], none, [], [], none, []⟩
/-- a function of the program: its name, its form, its statement, its address, its defaults -/
noncomputable abbrev Rw := Str × Fn × Stmt × Addr × Value
noncomputable def fix (r : Rw) (fd : FuncData) : FuncData := { fd with params := fnArgs r.2.2.1, body := .stmts r.2.1.body, scope := r.2.1.scope, globals := mainGlobals, closure := [], defaults := r.2.2.2.2, builtins := builtinsNs }
noncomputable def rwB (K : Frag) (r : Rw) : Bool := isFd K r.2.2.2.1 && isFn K (.ref r.2.2.2.1) && keepIn K (.ref r.2.2.2.1) && codeIn K (fdAt K r.2.2.2.1).code (fdAt K r.2.2.2.1).qualname
noncomputable def fnR : List Rw := [("put_number", F_put_number, stAt 12, 104, .none), ("get_number", F_get_number, stAt 13, 111, .none), ("put16", F_put16, stAt 14, 118, .none), ("get16", F_get16, stAt 16, 132, .none), ("row_octets", F_row_octets, stAt 31, 148, .none), ("sized_text", F_sized_text, stAt 32, 155, .none), ("packed_row", F_packed_row, stAt 34, 169, .none), ("check_order", F_check_order, stAt 35, 174, .none), ("pack_rows", F_pack_rows, stAt 36, 179, .none), ("read_first", F_read_first, stAt 38, 193, .none), ("read_row", F_read_row, stAt 39, 200, .none), ("unpack_rows", F_unpack_rows, stAt 40, 207, .none), ("with_time", F_with_time, stAt 41, 212, .none), ("_law_pool", F_law_pool, stAt 51, 394, .none), ("_law_take", F_law_take, stAt 52, 401, .none), ("_law_one", F_law_one, stAt 53, 408, .none), ("_law_words", F_law_words, stAt 54, 415, .none), ("_law_call", F_law_call, stAt 55, 422, .none), ("_law_names", F_law_names, stAt 56, 427, .none), ("_law_due", F_law_due, stAt 57, 432, .none), ("_law_hurry", F_law_hurry, stAt 58, 439, .none), ("_law_sent", F_law_sent, stAt 59, 446, .none), ("_law_step_right", F_law_step_right, stAt 60, 451, .none), ("_law_second_right", F_law_second_right, stAt 61, 456, .none), ("_law_fixed_right", F_law_fixed_right, stAt 62, 461, .none), ("law", F_law, stAt 63, 468, .none)]
noncomputable def mtR : List (Str × Rw) := [("Frame", ("__init__", M_Frame_init, mtAt 10 0, 79, .none)), ("LldpTimes", ("__init__", M_LldpTimes_init, mtAt 46 0, 227, .ref 220)), ("LldpTimes", ("told_time", M_LldpTimes_told_time, mtAt 46 1, 234, .none)), ("Neighbour", ("__init__", M_Neighbour_init, mtAt 47 0, 255, .none)), ("LldpPort", ("__init__", M_LldpPort_init, mtAt 48 0, 276, .none)), ("LldpPort", ("hurry", M_LldpPort_hurry, mtAt 48 1, 283, .none)), ("LldpPort", ("go_on", M_LldpPort_go_on, mtAt 48 2, 290, .none)), ("LldpAgent", ("__init__", M_LldpAgent_init, mtAt 49 0, 312, .ref 305)), ("LldpAgent", ("add_port", M_LldpAgent_add_port, mtAt 49 1, 319, .none)), ("LldpAgent", ("frame_of", M_LldpAgent_frame_of, mtAt 49 2, 326, .none)), ("LldpAgent", ("link_up", M_LldpAgent_link_up, mtAt 49 3, 333, .none)), ("LldpAgent", ("link_down", M_LldpAgent_link_down, mtAt 49 4, 340, .none)), ("LldpAgent", ("change", M_LldpAgent_change, mtAt 49 5, 347, .none)), ("LldpAgent", ("second", M_LldpAgent_second, mtAt 49 7, 361, .none)), ("LldpAgent", ("heard", M_LldpAgent_heard, mtAt 49 8, 368, .none)), ("LldpAgent", ("expire", M_LldpAgent_expire, mtAt 49 9, 375, .none)), ("LldpAgent", ("neighbours_of", M_LldpAgent_neighbours_of, mtAt 49 10, 380, .none))]
noncomputable def alR : List Rw := fnR ++ mtR.map (·.2)
noncomputable def clN : List Str := clL.map (·.1)
noncomputable def plN : List (Str × Str) := plL.flatMap fun y => y.2.map fun z => (y.1, z)
noncomputable def biN : List Str := ["len", "int", "max", "min", "bytes", "tuple", "sorted", "range"].map Str.ofString
noncomputable def clB (K : Frag) (a : Addr) : Bool := keepIn K (.ref a) && makesIn K a && hasDictIn K a && plainOver K a
noncomputable def csV : List Value := [.int 0 369, .int 1 371, .int 2 373, .int 3 375, .int 511 397, .int 255 399, .int 65535 401, .int 1652522221582 499, .int 35020 501, .int 65535 503, .ref 141, .ref 140]
noncomputable def txE (p : Params) : Array DictEntry := #[⟨PyData.keyHash p "port text", .str "port text" 383, .int 4 384⟩, ⟨PyData.keyHash p "name", .str "name" 385, .int 5 386⟩, ⟨PyData.keyHash p "system text", .str "system text" 387, .int 6 388⟩]
/-- what the heap behind the program's top holds, as far as the law's run needs it -/
structure KOk (p : Params) (K : Frag) : Prop where
  f1 : alR.all (rwB K) = true
  f2 : alR.map (fun r => fdAt K r.2.2.2.1) = alR.map (fun r => fix r (fdAt K r.2.2.2.1))
  f3 : fnR.map (fun r => nsIn K mainGlobals r.1) = fnR.map (fun r => some (some (.ref r.2.2.2.1)))
  f4 : mtR.map (fun y => findIn K (.ref (caK K y.1)) y.2.1) = mtR.map (fun y => some (some (.ref y.2.2.2.2.1)))
  c1 : clN.all (fun C => clB K (caK K C)) = true
  c2 : clN.map (fun C => nsIn K mainGlobals C) = clN.map (fun C => some (some (.ref (caK K C))))
  c3 : clN.map (fun C => findIn K (.ref (caK K C)) "__getattribute__") = clN.map (fun _ => some (some (.builtin "object.__getattribute__")))
  c4 : clN.map (fun C => findIn K (.ref (caK K C)) "__getattr__") = clN.map (fun _ => some none)
  c5 : clN.map (fun C => findIn K (.ref (caK K C)) "__setattr__") = clN.map (fun _ => some (some (.builtin "object.__setattr__")))
  pl : plN.map (fun y => findIn K (.ref (caK K y.1)) y.2) = plN.map (fun _ => some none)
  bi : biN.map (nsIn K mainGlobals) = biN.map (fun _ => some none)
  k1 : csL.map (fun y => nsIn K mainGlobals y.1) = csV.map (fun v => some (some v))
  k2 : K.lookup 141 = some (tupObj #[.str "chassis" 393, .str "port" 394, .str "time" 395] 0)
  k3 : K.lookup 140 = some ⟨.type "dict", none, .dict (txE p) 3, #[]⟩
  k4 : K.lookup 220 = some (tupObj #[.int 30 517, .int 4 518, .int 1 519, .int 4 520] 0)
  k5 : K.lookup 305 = some (tupObj #[.int 8 643] 0)
noncomputable def BindQ (X : Cx) (F : Fn) (fd : FuncData) : Prop := ∀ ps ls, bindP F ps = some ls → ∀ (c : Cfg) (s : Shared) (vs : List Value), X.K.In s.heap → (∀ a o, X.h₀.get? a = some o → s.heap.get? a = some o ∧ ¬ c.M a) → IsVs X c s.heap ps vs →
  ∃ binds : List (Str × Value), BindsTo s fd ⟨vs, []⟩ binds ∧ binds.map (·.1) = ls.map (·.1) ∧ IsVs X c s.heap (ls.map (·.2)) (binds.map (·.2))
section
variable {X : Cx} {F : Fn} {fd : FuncData}
theorem fnAt_row {r : Rw} (h1 : rwB X.K r = true) (h2 : fdAt X.K r.2.2.2.1 = fix r (fdAt X.K r.2.2.2.1)) (hc : fnChk r.2.1 = true) (hb : BindQ X r.2.1 (fix r (fdAt X.K r.2.2.2.1))) : FnAt X r.2.1 r.2.2.2.1 := by
  unfold rwB at h1
  simp only [Bool.and_eq_true] at h1
  obtain ⟨⟨⟨a1, a2⟩, a3⟩, a4⟩ := h1
  obtain ⟨oc, od, osl, he⟩ := fdAt_of a1
  unfold fnChk at hc
  simp only [Bool.and_eq_true, beq_iff_eq, decide_eq_true_eq, List.all_eq_true, Bool.or_eq_true, bne_iff_ne, ne_eq] at hc
  obtain ⟨⟨⟨⟨⟨c1, c2⟩, c3⟩, c4⟩, c5⟩, c6⟩ := hc
  rw [← h2] at hb
  exact ⟨a2, a3, ⟨oc, od, osl, _, he, congrArg FuncData.body h2, congrArg FuncData.scope h2, congrArg FuncData.globals h2, congrArg FuncData.builtins h2, congrArg FuncData.closure h2, a4, hb⟩, c1, c2, c3, c4, c5, c6⟩
theorem bind_dfl {ns : List Str} {ds : List PV} {dvs : List Value} (hp : F.params = ns) (hd : F.dflts = ds) (hl : dvs.length = ds.length) (hb : ∀ (s : Shared), X.K.In s.heap → ∀ vs : List Value, vs.length ≤ ns.length → ns.length ≤ vs.length + ds.length → BindsTo s fd ⟨vs, []⟩ (List.zip ns (vs ++ dvs.drop (vs.length + ds.length - ns.length)))) (hdv : ∀ c h, IsVs X c h ds dvs) : BindQ X F fd := fun ps ls hls c s vs hK _ hv => by
  unfold bindP at hls
  rw [hp, hd] at hls
  have e := hv.length
  by_cases hc : ps.length ≤ ns.length ∧ ns.length ≤ ps.length + ds.length
  · rw [if_pos hc] at hls
    rw [← Option.some.inj hls, ← e]
    have h1 : ns.length = (vs ++ dvs.drop (vs.length + ds.length - ns.length)).length := by rw [List.length_append, List.length_drop, hl, e]; lia
    have h2 : ns.length = (ps ++ ds.drop (vs.length + ds.length - ns.length)).length := by rw [List.length_append, List.length_drop, e]; lia
    refine ⟨_, hb s hK vs (e ▸ hc.1) (e ▸ hc.2), ?_, ?_⟩
    · rw [List.map_fst_zip (Nat.le_of_eq h1), List.map_fst_zip (Nat.le_of_eq h2)]
    · rw [List.map_snd_zip (Nat.le_of_eq h1.symm), List.map_snd_zip (Nat.le_of_eq h2.symm)]; exact hv.append ((hdv c s.heap).drop _)
  · rw [if_neg hc] at hls; exact nO hls
theorem bind_plain {n : Nat} (hn : F.params.length = n) (hd : F.dflts = []) (hb : ∀ vs : List Value, vs.length = n → bindArgs fd ⟨vs, []⟩ = pure (List.zip F.params vs)) : BindQ X F fd :=
  bind_dfl (dvs := []) rfl hd rfl (fun s _ vs h1 h2 => by rw [List.drop_nil, List.append_nil]; exact .of_eq (hb vs (hn ▸ Nat.le_antisymm h1 h2))) fun _ _ => .nil
end
theorem len1 {α : Type} {l : List α} (h : l.length = 1) : ∃ a, l = [a] := List.length_eq_one_iff.mp h
theorem lenS {α : Type} {l : List α} {n : Nat} (h : l.length = n + 1) : ∃ a m, l = a :: m ∧ m.length = n := by
  cases l with
  | nil => exact nomatch h
  | cons a m => exact ⟨a, m, rfl, Nat.succ.inj h⟩
theorem len2 {α : Type} {l : List α} (h : l.length = 2) : ∃ a b, l = [a, b] := by obtain ⟨a, m, rfl, i⟩ := lenS h; obtain ⟨b, rfl⟩ := len1 i; exact ⟨a, b, rfl⟩
theorem len3 {α : Type} {l : List α} (h : l.length = 3) : ∃ a b c, l = [a, b, c] := by obtain ⟨a, m, rfl, i⟩ := lenS h; obtain ⟨b, c, rfl⟩ := len2 i; exact ⟨a, b, c, rfl⟩
theorem len4 {α : Type} {l : List α} (h : l.length = 4) : ∃ a b c d, l = [a, b, c, d] := by obtain ⟨a, m, rfl, i⟩ := lenS h; obtain ⟨b, c, d, rfl⟩ := len3 i; exact ⟨a, b, c, d, rfl⟩
theorem len5 {α : Type} {l : List α} (h : l.length = 5) : ∃ a b c d e, l = [a, b, c, d, e] := by obtain ⟨a, m, rfl, i⟩ := lenS h; obtain ⟨b, c, d, e, rfl⟩ := len4 i; exact ⟨a, b, c, d, e, rfl⟩
theorem len6 {α : Type} {l : List α} (h : l.length = 6) : ∃ a b c d e f, l = [a, b, c, d, e, f] := by obtain ⟨a, m, rfl, i⟩ := lenS h; obtain ⟨b, c, d, e, f, rfl⟩ := len5 i; exact ⟨a, b, c, d, e, f, rfl⟩
theorem len7 {α : Type} {l : List α} (h : l.length = 7) : ∃ a b c d e f g, l = [a, b, c, d, e, f, g] := by obtain ⟨a, m, rfl, i⟩ := lenS h; obtain ⟨b, c, d, e, f, g, rfl⟩ := len6 i; exact ⟨a, b, c, d, e, f, g, rfl⟩
section
variable {X : Cx} {F : Fn} {fd : FuncData}
theorem bind0 (hn : F.params.length = 0) (hd : F.dflts = []) (h : bindArgs fd ⟨[], []⟩ = pure (List.zip F.params [])) : BindQ X F fd := bind_plain hn hd fun vs e => by cases List.eq_nil_of_length_eq_zero e; exact h
theorem bind1 (hn : F.params.length = 1) (hd : F.dflts = []) (h : ∀ a, bindArgs fd ⟨[a], []⟩ = pure (List.zip F.params [a])) : BindQ X F fd := bind_plain hn hd fun vs i => by obtain ⟨a, rfl⟩ := len1 i; exact h a
theorem bind2 (hn : F.params.length = 2) (hd : F.dflts = []) (h : ∀ a b, bindArgs fd ⟨[a, b], []⟩ = pure (List.zip F.params [a, b])) : BindQ X F fd := bind_plain hn hd fun vs i => by obtain ⟨a, b, rfl⟩ := len2 i; exact h a b
theorem bind3 (hn : F.params.length = 3) (hd : F.dflts = []) (h : ∀ a b c, bindArgs fd ⟨[a, b, c], []⟩ = pure (List.zip F.params [a, b, c])) : BindQ X F fd := bind_plain hn hd fun vs i => by obtain ⟨a, b, c, rfl⟩ := len3 i; exact h a b c
theorem bind4 (hn : F.params.length = 4) (hd : F.dflts = []) (h : ∀ a b c d, bindArgs fd ⟨[a, b, c, d], []⟩ = pure (List.zip F.params [a, b, c, d])) : BindQ X F fd := bind_plain hn hd fun vs i => by obtain ⟨a, b, c, d, rfl⟩ := len4 i; exact h a b c d
theorem bind5 (hn : F.params.length = 5) (hd : F.dflts = []) (h : ∀ a b c d e, bindArgs fd ⟨[a, b, c, d, e], []⟩ = pure (List.zip F.params [a, b, c, d, e])) : BindQ X F fd := bind_plain hn hd fun vs i => by obtain ⟨a, b, c, d, e, rfl⟩ := len5 i; exact h a b c d e
theorem bind6 (hn : F.params.length = 6) (hd : F.dflts = []) (h : ∀ a b c d e f, bindArgs fd ⟨[a, b, c, d, e, f], []⟩ = pure (List.zip F.params [a, b, c, d, e, f])) : BindQ X F fd := bind_plain hn hd fun vs i => by obtain ⟨a, b, c, d, e, f, rfl⟩ := len6 i; exact h a b c d e f
theorem bind7 (hn : F.params.length = 7) (hd : F.dflts = []) (h : ∀ a b c d e f g, bindArgs fd ⟨[a, b, c, d, e, f, g], []⟩ = pure (List.zip F.params [a, b, c, d, e, f, g])) : BindQ X F fd := bind_plain hn hd fun vs i => by obtain ⟨a, b, c, d, e, f, g, rfl⟩ := len7 i; exact h a b c d e f g
end
noncomputable abbrev mkX (K : Frag) (pr : Program) (w : World) (h₀ : Heap) : Cx := ⟨pr, w, K, h₀, caK K⟩
noncomputable def fdMini (q : Str) (ps : List Str) (T : Addr) : FuncData := ⟨"__init__", q, ⟨[], ps.map fun p => ⟨p, none, ⟨0, 0, 0, 0⟩⟩, none, [], [], none, []⟩, .stmts [], ⟨.function, [], false, false, []⟩, mainGlobals, [], .ref T, .none, .none, .none, none, .none, .none, builtinsNs⟩
section
variable {p : Params} {K : Frag} {pr : Program} {w : World} {h₀ : Heap}
noncomputable def rwTimes : Rw := ("__init__", M_LldpTimes_init, mtAt 46 0, 227, .ref 220)
noncomputable def rwAgent : Rw := ("__init__", M_LldpAgent_init, mtAt 49 0, 312, .ref 305)
theorem timesB {s : Shared} (hT : s.heap.get? 220 = some (tupObj #[.int 30 517, .int 4 518, .int 1 519, .int 4 520] 0)) {fd : FuncData} {vs : List Value} {bs : List (Str × Value)} (h1 : bindArgs (fix rwTimes fd) ⟨vs, []⟩ = bindArgs (fdMini fd.qualname ["self", "interval", "hold", "fast_interval", "fast_many"] 220) ⟨vs, []⟩) (h2 : BindsTo s (fdMini fd.qualname ["self", "interval", "hold", "fast_interval", "fast_many"] 220) ⟨vs, []⟩ bs) : BindsTo s (fix rwTimes fd) ⟨vs, []⟩ bs := fun M A E Q q => by rw [h1]; exact h2 M A E Q q
theorem agentB {s : Shared} (hT : s.heap.get? 305 = some (tupObj #[.int 8 643] 0)) {fd : FuncData} {vs : List Value} {bs : List (Str × Value)} (h1 : bindArgs (fix rwAgent fd) ⟨vs, []⟩ = bindArgs (fdMini fd.qualname ["self", "mac", "times", "most"] 305) ⟨vs, []⟩) (h2 : BindsTo s (fdMini fd.qualname ["self", "mac", "times", "most"] 305) ⟨vs, []⟩ bs) : BindsTo s (fix rwAgent fd) ⟨vs, []⟩ bs := fun M A E Q q => by rw [h1]; exact h2 M A E Q q
theorem times_bind (hk : KOk p K) (fd : FuncData) : BindQ (mkX K pr w h₀) M_LldpTimes_init (fix rwTimes fd) :=
  bind_dfl (ns := ["self", "interval", "hold", "fast_interval", "fast_many"]) (ds := [.int 30, .int 4, .int 1, .int 4]) (dvs := [.int 30 517, .int 4 518, .int 1 519, .int 4 520]) (by kernel_rfl) rfl rfl (fun s hK vs h1 h2 => by
    have hT := hK _ _ hk.k4
    have hc : vs.length = 1 ∨ vs.length = 2 ∨ vs.length = 3 ∨ vs.length = 4 ∨ vs.length = 5 := by change vs.length ≤ 5 at h1; change 5 ≤ vs.length + 4 at h2; clear hT hK; lia
    rcases hc with hc | hc | hc | hc | hc
    · obtain ⟨a, rfl⟩ := len1 hc
      exact timesB hT (by kernel_rfl) (BindsTo.of_defaults rfl hT rfl rfl rfl)
    · obtain ⟨a, b, rfl⟩ := len2 hc
      exact timesB hT (by kernel_rfl) (BindsTo.of_defaults rfl hT rfl rfl rfl)
    · obtain ⟨a, b, c, rfl⟩ := len3 hc
      exact timesB hT (by kernel_rfl) (BindsTo.of_defaults rfl hT rfl rfl rfl)
    · obtain ⟨a, b, c, d, rfl⟩ := len4 hc
      exact timesB hT (by kernel_rfl) (BindsTo.of_defaults rfl hT rfl rfl rfl)
    · obtain ⟨a, b, c, d, e, rfl⟩ := len5 hc
      exact timesB hT (by kernel_rfl) (BindsTo.of_defaults rfl hT rfl rfl rfl)) fun _ _ => .cons .int' (.cons .int' (.cons .int' (.cons .int' .nil)))
theorem agent_bind (hk : KOk p K) (fd : FuncData) : BindQ (mkX K pr w h₀) M_LldpAgent_init (fix rwAgent fd) :=
  bind_dfl (ns := ["self", "mac", "times", "most"]) (ds := [.int 8]) (dvs := [.int 8 643]) (by kernel_rfl) rfl rfl (fun s hK vs h1 h2 => by
    have hT := hK _ _ hk.k5
    have hc : vs.length = 3 ∨ vs.length = 4 := by change vs.length ≤ 4 at h1; change 4 ≤ vs.length + 1 at h2; clear hT hK; lia
    rcases hc with hc | hc
    · obtain ⟨a, b, c, rfl⟩ := len3 hc
      exact agentB hT (by kernel_rfl) (BindsTo.of_defaults rfl hT rfl rfl rfl)
    · obtain ⟨a, b, c, d, rfl⟩ := len4 hc
      exact agentB hT (by kernel_rfl) (BindsTo.of_defaults rfl hT rfl rfl rfl)) fun _ _ => .cons .int' .nil
theorem bind_fn {X : Cx} : ∀ r ∈ fnR, ∀ fd, BindQ X r.2.1 (fix r fd) := by
  unfold fnR
  refine List.forall_mem_cons.mpr ⟨fun fd => bind2 (by kernel_rfl) rfl (fun a b => by kernel_rfl), ?_⟩
  refine List.forall_mem_cons.mpr ⟨fun fd => bind3 (by kernel_rfl) rfl (fun a b c => by kernel_rfl), ?_⟩
  refine List.forall_mem_cons.mpr ⟨fun fd => bind1 (by kernel_rfl) rfl (fun a => by kernel_rfl), ?_⟩
  refine List.forall_mem_cons.mpr ⟨fun fd => bind2 (by kernel_rfl) rfl (fun a b => by kernel_rfl), ?_⟩
  refine List.forall_mem_cons.mpr ⟨fun fd => bind2 (by kernel_rfl) rfl (fun a b => by kernel_rfl), ?_⟩
  refine List.forall_mem_cons.mpr ⟨fun fd => bind2 (by kernel_rfl) rfl (fun a b => by kernel_rfl), ?_⟩
  refine List.forall_mem_cons.mpr ⟨fun fd => bind1 (by kernel_rfl) rfl (fun a => by kernel_rfl), ?_⟩
  refine List.forall_mem_cons.mpr ⟨fun fd => bind1 (by kernel_rfl) rfl (fun a => by kernel_rfl), ?_⟩
  refine List.forall_mem_cons.mpr ⟨fun fd => bind1 (by kernel_rfl) rfl (fun a => by kernel_rfl), ?_⟩
  refine List.forall_mem_cons.mpr ⟨fun fd => bind2 (by kernel_rfl) rfl (fun a b => by kernel_rfl), ?_⟩
  refine List.forall_mem_cons.mpr ⟨fun fd => bind2 (by kernel_rfl) rfl (fun a b => by kernel_rfl), ?_⟩
  refine List.forall_mem_cons.mpr ⟨fun fd => bind1 (by kernel_rfl) rfl (fun a => by kernel_rfl), ?_⟩
  refine List.forall_mem_cons.mpr ⟨fun fd => bind2 (by kernel_rfl) rfl (fun a b => by kernel_rfl), ?_⟩
  refine List.forall_mem_cons.mpr ⟨fun fd => bind2 (by kernel_rfl) rfl (fun a b => by kernel_rfl), ?_⟩
  refine List.forall_mem_cons.mpr ⟨fun fd => bind2 (by kernel_rfl) rfl (fun a b => by kernel_rfl), ?_⟩
  refine List.forall_mem_cons.mpr ⟨fun fd => bind2 (by kernel_rfl) rfl (fun a b => by kernel_rfl), ?_⟩
  refine List.forall_mem_cons.mpr ⟨fun fd => bind3 (by kernel_rfl) rfl (fun a b c => by kernel_rfl), ?_⟩
  refine List.forall_mem_cons.mpr ⟨fun fd => bind6 (by kernel_rfl) rfl (fun a b c d e f => by kernel_rfl), ?_⟩
  refine List.forall_mem_cons.mpr ⟨fun fd => bind2 (by kernel_rfl) rfl (fun a b => by kernel_rfl), ?_⟩
  refine List.forall_mem_cons.mpr ⟨fun fd => bind7 (by kernel_rfl) rfl (fun a b c d e f g => by kernel_rfl), ?_⟩
  refine List.forall_mem_cons.mpr ⟨fun fd => bind3 (by kernel_rfl) rfl (fun a b c => by kernel_rfl), ?_⟩
  refine List.forall_mem_cons.mpr ⟨fun fd => bind2 (by kernel_rfl) rfl (fun a b => by kernel_rfl), ?_⟩
  refine List.forall_mem_cons.mpr ⟨fun fd => bind4 (by kernel_rfl) rfl (fun a b c d => by kernel_rfl), ?_⟩
  refine List.forall_mem_cons.mpr ⟨fun fd => bind3 (by kernel_rfl) rfl (fun a b c => by kernel_rfl), ?_⟩
  refine List.forall_mem_cons.mpr ⟨fun fd => bind0 (by kernel_rfl) rfl (by kernel_rfl), ?_⟩
  refine List.forall_mem_cons.mpr ⟨fun fd => bind1 (by kernel_rfl) rfl (fun a => by kernel_rfl), ?_⟩
  exact fun _ h => nomatch h
theorem bind_mt (hk : KOk p K) : ∀ r ∈ mtR.map (·.2), ∀ fd, BindQ (mkX K pr w h₀) r.2.1 (fix r fd) := by
  show ∀ r ∈ (List.map (fun x : Str × Rw => x.2) mtR), _
  unfold mtR
  simp only [List.map_cons, List.map_nil]
  refine List.forall_mem_cons.mpr ⟨fun fd => bind6 (by kernel_rfl) rfl (fun a b c d e f => by kernel_rfl), ?_⟩
  refine List.forall_mem_cons.mpr ⟨times_bind hk, ?_⟩
  refine List.forall_mem_cons.mpr ⟨fun fd => bind1 (by kernel_rfl) rfl (fun a => by kernel_rfl), ?_⟩
  refine List.forall_mem_cons.mpr ⟨fun fd => bind3 (by kernel_rfl) rfl (fun a b c => by kernel_rfl), ?_⟩
  refine List.forall_mem_cons.mpr ⟨fun fd => bind2 (by kernel_rfl) rfl (fun a b => by kernel_rfl), ?_⟩
  refine List.forall_mem_cons.mpr ⟨fun fd => bind2 (by kernel_rfl) rfl (fun a b => by kernel_rfl), ?_⟩
  refine List.forall_mem_cons.mpr ⟨fun fd => bind2 (by kernel_rfl) rfl (fun a b => by kernel_rfl), ?_⟩
  refine List.forall_mem_cons.mpr ⟨agent_bind hk, ?_⟩
  refine List.forall_mem_cons.mpr ⟨fun fd => bind3 (by kernel_rfl) rfl (fun a b c => by kernel_rfl), ?_⟩
  refine List.forall_mem_cons.mpr ⟨fun fd => bind2 (by kernel_rfl) rfl (fun a b => by kernel_rfl), ?_⟩
  refine List.forall_mem_cons.mpr ⟨fun fd => bind2 (by kernel_rfl) rfl (fun a b => by kernel_rfl), ?_⟩
  refine List.forall_mem_cons.mpr ⟨fun fd => bind2 (by kernel_rfl) rfl (fun a b => by kernel_rfl), ?_⟩
  refine List.forall_mem_cons.mpr ⟨fun fd => bind3 (by kernel_rfl) rfl (fun a b c => by kernel_rfl), ?_⟩
  refine List.forall_mem_cons.mpr ⟨fun fd => bind1 (by kernel_rfl) rfl (fun a => by kernel_rfl), ?_⟩
  refine List.forall_mem_cons.mpr ⟨fun fd => bind4 (by kernel_rfl) rfl (fun a b c d => by kernel_rfl), ?_⟩
  refine List.forall_mem_cons.mpr ⟨fun fd => bind2 (by kernel_rfl) rfl (fun a b => by kernel_rfl), ?_⟩
  refine List.forall_mem_cons.mpr ⟨fun fd => bind2 (by kernel_rfl) rfl (fun a b => by kernel_rfl), ?_⟩
  exact fun _ h => nomatch h
theorem fn_all (hk : KOk p K) (r : Rw) (hr : r ∈ alR) : FnAt (mkX K pr w h₀) r.2.1 r.2.2.2.1 :=
  fnAt_row (List.all_eq_true.mp hk.f1 r hr) (List.map_inj_left.mp hk.f2 r hr) (List.all_eq_true.mp (show alR.all (fun r => fnChk r.2.1) = true by decide +kernel) r hr) ((List.mem_append.mp hr).elim (fun h => bind_fn r h _) fun h => bind_mt hk r h _)
theorem T_fn (hk : KOk p K) : ∀ x F, tbl.fn x = some F → ∃ a, nsIn K mainGlobals x = some (some (.ref a)) ∧ FnAt (mkX K pr w h₀) F a := fun x F h => by
  have hm : (x, F) ∈ fnR.map (fun r => (r.1, r.2.1)) := mem_of_lookup h
  obtain ⟨r, hr, he⟩ := List.mem_map.mp hm
  cases he
  exact ⟨_, List.map_inj_left.mp hk.f3 r hr, fn_all hk r (List.mem_append_left _ hr)⟩
theorem cls_all (hk : KOk p K) {C : Str} (h : C ∈ clN) : ClsFacts (mkX K pr w h₀) C := by
  have hB := List.all_eq_true.mp hk.c1 C h
  unfold clB at hB
  simp only [Bool.and_eq_true] at hB
  exact ⟨List.map_inj_left.mp hk.c3 C h, List.map_inj_left.mp hk.c4 C h, hB.1.2, List.map_inj_left.mp hk.c5 C h, hB.2⟩
theorem T_cls (hk : KOk p K) : ∀ C fz, tbl.cls C = some fz → nsIn K mainGlobals C = some (some (.ref (caK K C))) ∧ keepIn K (.ref (caK K C)) = true ∧ makesIn K (caK K C) = true ∧ ClsFacts (mkX K pr w h₀) C := fun C fz h => by
  have hm : C ∈ clN := List.mem_map.mpr ⟨(C, fz), mem_of_lookup h, rfl⟩
  have hB := List.all_eq_true.mp hk.c1 C hm
  unfold clB at hB
  simp only [Bool.and_eq_true] at hB
  exact ⟨List.map_inj_left.mp hk.c2 C hm, hB.1.1.1, hB.1.1.2, cls_all hk hm⟩
theorem mt_cl : ∀ y ∈ mtR, y.1 ∈ clN := fun y hy => by
  have h := List.all_eq_true.mp (show mtR.all (fun y => decide (y.1 ∈ clN)) = true by decide +kernel) y hy
  exact of_decide_eq_true h
theorem pl_cl : ∀ y ∈ plL, y.1 ∈ clN := fun y hy => by
  have h := List.all_eq_true.mp (show plL.all (fun y => decide (y.1 ∈ clN)) = true by decide +kernel) y hy
  exact of_decide_eq_true h
theorem T_meth (hk : KOk p K) : ∀ C x F, tbl.meth C x = some F → ClsFacts (mkX K pr w h₀) C ∧ ∃ a, findIn K (.ref (caK K C)) x = some (some (.ref a)) ∧ FnAt (mkX K pr w h₀) F a := fun C x F h => by
  obtain ⟨l, hl, h⟩ := Option.bind_eq_some_iff.mp h
  have hm : (C, x, F) ∈ mtL.flatMap (fun c => c.2.map fun z => (c.1, z.1, z.2)) := List.mem_flatMap.mpr ⟨(C, l), mem_of_lookup hl, List.mem_map.mpr ⟨(x, F), mem_of_lookup h, rfl⟩⟩
  have hm : (C, x, F) ∈ mtR.map (fun y => (y.1, y.2.1, y.2.2.1)) := hm
  obtain ⟨y, hy, he⟩ := List.mem_map.mp hm
  cases he
  exact ⟨cls_all hk (mt_cl y hy), _, List.map_inj_left.mp hk.f4 y hy, fn_all hk y.2 (List.mem_append_right _ (List.mem_map.mpr ⟨y, hy, rfl⟩))⟩
set_option tactic.hygienic true in
theorem T_plain (hk : KOk p K) : ∀ C x, tbl.plain C x = true → ClsFacts (mkX K pr w h₀) C ∧ findIn K (.ref (caK K C)) x = some none := by
  intro C x h
  have h' : (match plL.lookup C with | some l => l.contains x | none => false) = true := h
  split at h'
  · rename_i l hl
    have hm := mem_of_lookup hl
    exact ⟨cls_all hk (pl_cl _ hm), List.map_inj_left.mp hk.pl (C, x) (List.mem_flatMap.mpr ⟨(C, l), hm, List.mem_map.mpr ⟨x, by simpa using h', rfl⟩⟩)⟩
  · cases h'
theorem cst_all {X : Cx} {c : Cfg} {h : Heap} {f : Str → Option (Option Value)} : ∀ {l : List (Str × PV)} {vs : List Value}, l.map (fun y => f y.1) = vs.map (fun v => some (some v)) → IsVs X c h (l.map (·.2)) vs → ∀ y ∈ l, ∃ v, f y.1 = some (some v) ∧ IsV X c h y.2 v
  | [], _, _, _ => fun y hy => nomatch hy
  | x :: l, [], e, _ => nomatch e
  | x :: l, v :: vs, e, i => List.forall_mem_cons.mpr ⟨⟨v, (List.cons.inj e).1, i.consP.1⟩, cst_all (List.cons.inj e).2 i.consP.2⟩
theorem cs_val (hk : KOk w.params K) (hK : K.In h₀) : IsVs (mkX K pr w h₀) ⟨fun _ => False, fun _ => none⟩ h₀ (csL.map (·.2)) csV := by
  refine .cons .int' (.cons .int' (.cons .int' (.cons .int' (.cons .int' (.cons .int' (.cons .int' (.cons .int' (.cons .int' (.cons .int' (.cons ?_ (.cons ?_ .nil)))))))))))
  · exact .mk 141 #[.str "chassis" 393, .str "port" 394, .str "time" 395] 0 (hK _ _ hk.k2) (fun f => f) (.cons .str' (.cons .str' (.cons .str' .nil)))
  · refine .mk 140 [.int 4 384, .int 5 386, .int 6 388] (by decide +kernel) ⟨_, txE w.params, 3, hK 140 _ hk.k3, ⟨rfl, rfl, rfl⟩, rfl, ?_, ?_, by decide +kernel⟩ (fun f => f) (.cons .int' (.cons .int' (.cons .int' .nil)))
    · intro e he
      simp only [txE, List.mem_toArray, List.mem_cons, List.not_mem_nil, or_false] at he
      rcases he with rfl | rfl | rfl
      · exact ⟨"port text", by kernel_rfl, by kernel_rfl⟩
      · exact ⟨"name", by kernel_rfl, by kernel_rfl⟩
      · exact ⟨"system text", by kernel_rfl, by kernel_rfl⟩
    · exact .cons (by kernel_rfl) rfl (.cons (by kernel_rfl) rfl (.cons (by kernel_rfl) rfl .nil))
theorem T_bi (hk : KOk p K) : ∀ x, x ∈ biN → nsIn K mainGlobals x = some none := fun x hx => List.map_inj_left.mp hk.bi x hx
theorem tab_ok (hk : KOk w.params K) (hK : K.In h₀) (hs : Live h₀ sysModules) : TabOk (mkX K pr w h₀) tbl :=
  ⟨T_fn hk, T_cls hk, T_meth hk, fun x q h => cst_all hk.k1 (cs_val hk hK) (x, q) (mem_of_lookup h), T_plain hk, T_bi hk⟩
end
end Lm
end
section
open PySem PySem.W PyProof.Rows
set_option Elab.async false
set_option autoImplicit false
set_option linter.unusedVariables false
set_option maxRecDepth 100000
set_option tactic.hygienic false
namespace Lm
noncomputable def St0 : St := ⟨fun _ => none, fun _ => 0, 0⟩
/-- what the plain law has to show -/
noncomputable def LawRuns : Prop := ∀ ns : List Int, ns.length ≤ 63 → ∃ σ', callF tbl 80 F_law [.lst (ns.map .int)] St0 (.bool true, σ')

theorem ints_well {X : Cx} {c : Cfg} {P : Params} {h h' : Heap} : ∀ {ns : List Int} {vs : List Value}, WellAll P h' vs (ns.map WData.int) → IsVs X c h (ns.map PV.int) vs
  | [], _, .nil => .nil
  | n :: ns, _, .cons a b => by
    cases a
    exact .cons .int' (ints_well b)

theorem law_params : F_law.params = ([Str.ofString "script"] : List Str) := by kernel_rfl

theorem ofPy_ints : ∀ ns : List Int, ofPy (PyData.list (ns.map PyData.int)) = WData.list (ns.map WData.int) := by
  have main : ∀ ns : List Int, ofPys (ns.map PyData.int) = ns.map WData.int := by
    intro ns
    induction ns with
    | nil => rfl
    | cons n ns ih => simp only [List.map_cons, ofPys, ofPy, ih]
  intro ns
  simp only [ofPy, main]

set_option tactic.hygienic true in
theorem join (LR : LawRuns) {K : Params → Frag} (hk : ∀ p, KOk p (K p)) {pr : Program} {w : World} {s₁ : Shared} {h₁ : Heap} {mg : Str → Option Value} {mb : Str → Option Value} {f l : Addr} {nm : Str} {cd : Value} {tk : Nat} {ns : List Int} {m : Str → Option Value}
    (KX : (K w.params).In s₁.heap) (hg : s₁.heap.Ns mainGlobals mg) (hb : s₁.heap.Ns builtinsNs mb) (hbb : ∀ x : Str, x ≠ "__name__" → mb x = bootBuiltins x) (hlim : s₁.heap.NoLimit) (hse : s₁.heap.NoSeer)
    (F : Fr s₁.heap s₁.heap.objs.size h₁ m) (hm : m "script" = some (.ref l)) (hw : Well w.params s₁.heap (.ref l) (ofPy (PyData.list (ns.map PyData.int)))) (hns : ns.length ≤ 63) {Q : Flow → Shared → Prop} {E : Value → Shared → Prop}
    (hQ : ∀ h' tk', (∀ b o, s₁.heap.get? b = some o → h'.get? b = some o) → Q (.ret (.bool true)) { s₁ with heap := h', toks := tk' }) :
    wpAny (model pr w) (callerA.deeper (envOf nm F_law.scope s₁.heap.objs.size f cd)) (execs F_law.body (envOf nm F_law.scope s₁.heap.objs.size f cd)) Q E { s₁ with heap := h₁, toks := tk } := by
  rw [ofPy_ints] at hw
  have hs : Live s₁.heap sysModules := by obtain ⟨mm, ⟨o, es, ep, ho, _⟩, _⟩ := hse.mods; exact ⟨o, ho⟩
  have W : Wd (mkX (K w.params) pr w s₁.heap) := ⟨KX, ⟨mg, hg⟩, ⟨mb, hb, hbb⟩, hlim, hs⟩
  have T : TabOk (mkX (K w.params) pr w s₁.heap) tbl := tab_ok (hk w.params) KX hs
  obtain ⟨σ', hrun⟩ := LR ns hns
  obtain @⟨ls, rl, rf, pr', rs, hls, hseq, hrun⟩ := (show CallR (EV tbl 79) St0 F_law [.lst (ns.map .int)] (.bool true, σ') from hrun)
  have hls' : ls = [(Str.ofString "script", PV.lst (ns.map PV.int))] := by
    unfold bindP at hls
    rw [law_params] at hls
    have hd : F_law.dflts = [] := rfl
    rw [hd] at hls
    split at hls <;> cases hls
    rfl
  subst hls'
  have hL0 : s₁.heap.get? s₁.heap.objs.size = none := get?_size _
  obtain ⟨oL, esL, epL, hoL, rL⟩ := F.ns
  have R0 : Rep (mkX (K w.params) pr w s₁.heap) ⟨fun a => a = s₁.heap.objs.size, fun _ => none⟩ St0 h₁ := by
    refine ⟨F.keep, fun a e => e ▸ hL0, fun a e => e ▸ ⟨oL, hoL⟩, fun p o e => (by cases e), fun p q o o' a b d e => (by cases e), fun p x e => (by cases e)⟩
  have nW : ∀ a, ¬ Wr (⟨fun a => a = s₁.heap.objs.size, fun _ => none⟩ : Cfg) St0 a := fun a q => by obtain ⟨p, o, x, e, _⟩ := q; cases e
  have hv : IsV (mkX (K w.params) pr w s₁.heap) ⟨fun a => a = s₁.heap.objs.size, fun _ => none⟩ h₁ (.lst (ns.map .int)) (.ref l) := by
    cases hw with
    | list e1 e2 =>
      rename_i vs
      refine .mk l vs.toArray 0 (F.keep _ _ e1) (fun e => ?_) ?_
      · dsimp only at e; rw [e, hL0] at e1; cases e1
      · exact ints_well e2
  have F0 : Fok (mkX (K w.params) pr w s₁.heap) ⟨fun a => a = s₁.heap.objs.size, fun _ => none⟩ St0 h₁ (envOf nm F_law.scope s₁.heap.objs.size f cd) [("script", .lst (ns.map .int))] := by
    refine ⟨by kernel_rfl, rfl, rfl, fun a q => ⟨?_, nW a⟩, ⟨_, F.ns⟩, fun x a q => (by cases q), .nil, fun x q => ?_, fun k p e g => ?_⟩
    · rcases q with rfl | ⟨x, q⟩
      · rfl
      · cases q
    · have hno : ∀ y ∈ F_law.scope.names, y.2 ≠ .cell ∧ y.2 ≠ .free := by
        have : F_law.scope.names.all (fun y => y.2 != .cell && y.2 != .free) = true := by decide +kernel
        intro y hy
        have := List.all_eq_true.mp this y hy
        simpa using this
      rcases q with q | q
      · exact absurd rfl (hno _ (mem_of_lookup q)).1
      · exact absurd rfl (hno _ (mem_of_lookup q)).2
    · unfold getV at e
      split at e
      · rename_i hk
        cases e
        dsimp only at hk; subst hk
        exact ⟨_, .inl ⟨by kernel_rfl, _, F.ns, hm⟩, hv⟩
      · cases e
  have A0 : At (mkX (K w.params) pr w s₁.heap) 79 F_law.scope [("script", .lst (ns.map .int))] St0 ⟨fun a => a = s₁.heap.objs.size, fun _ => none⟩ (callerA.deeper (envOf nm F_law.scope s₁.heap.objs.size f cd)) (envOf nm F_law.scope s₁.heap.objs.size f cd) h₁ :=
    ⟨⟨by show 4 + 3 + 40 * 79 + 600 ≤ cLine; decide, by show 1 + claimMargin + 1 + 3 * 79 + 10 ≤ recursionLimit; decide, rfl⟩, rfl, R0, F0⟩
  refine seq_ok (fun h => (all_ok W T 79).1.exc h) hseq _ { s₁ with heap := h₁, toks := tk } _ E _ Q A0 fun fl c' h' tk' R' E' F' hf => ?_
  cases hf with
  | ret hv' =>
    cases hrun
    rw [show _ = Value.bool true from hv']
    exact hQ h' tk' R'.base
  | next => cases hrun
  | brk => cases hrun
  | cont => cases hrun
end Lm
end
noncomputable def Lm.h0.tw1229800342081389559 : Unit := ()
noncomputable def Lm.h0.tw6277776441436325644 : Unit := ()
noncomputable def Lm.h0.tw13654979556112139442 : Unit := ()
noncomputable def Lm.h0.tw10976283377851168964 : Unit := ()
noncomputable def Lm.h0.tw12902820689792365900 : Unit := ()
noncomputable def Lm.h0.tw2036359022471412576 : Unit := ()
noncomputable def Lm.h0.tw5580730174394108497 : Unit := ()
noncomputable def Lm.h0.tw17354048182028204405 : Unit := ()
noncomputable def Lm.h0.tw9643935501938143938 : Unit := ()
noncomputable def Lm.h0.tw11070552219751481364 : Unit := ()
noncomputable def Lm.h0.tw6661818135306961266 : Unit := ()
noncomputable def Lm.h0.tw5492128374429447619 : Unit := ()
noncomputable def Lm.h0.tw14692396698976364768 : Unit := ()
noncomputable def Lm.h0.tw8893713962228248703 : Unit := ()
noncomputable def Lm.h0.tw14125017529475332718 : Unit := ()
noncomputable def Lm.h0.tw15686737023063029267 : Unit := ()
noncomputable def Lm.h0.tw4706742746027570846 : Unit := ()
noncomputable def Lm.h0.tw17571010127045159903 : Unit := ()
noncomputable def Lm.h0.tw15628914896944053211 : Unit := ()
noncomputable def Lm.h0.tw18027076951729534848 : Unit := ()
noncomputable def Lm.h0.tw7576082428949493967 : Unit := ()
noncomputable def Lm.h0.tw12903524329216250831 : Unit := ()
noncomputable def Lm.h0.tw2470084409602165533 : Unit := ()
noncomputable def Lm.h0.tw9432186806622967325 : Unit := ()
noncomputable def Lm.h0.tw14140353241232084417 : Unit := ()
noncomputable def Lm.h0.tw15902609125498190517 : Unit := ()
noncomputable def Lm.h0.tw14014714085497394794 : Unit := ()
noncomputable def Lm.h0.tw9204702978380825162 : Unit := ()
noncomputable def Lm.h0.tw15406423494563094168 : Unit := ()
noncomputable def Lm.h0.tw12780776722950870583 : Unit := ()
noncomputable def Lm.h0.tw2315424398682804917 : Unit := ()
noncomputable def Lm.h0.tw3340666391587053911 : Unit := ()
noncomputable def Lm.h0.tw1728059288121663914 : Unit := ()
noncomputable def Lm.h0.tw15405639324297878253 : Unit := ()
noncomputable def Lm.h0.tw13259383518944090843 : Unit := ()
noncomputable def Lm.h0.tw11765102256908282051 : Unit := ()
noncomputable def Lm.h0.tw15666534518005191717 : Unit := ()
noncomputable def Lm.h0.tw13144422093498416209 : Unit := ()
noncomputable def Lm.h0.tw8017039397942896575 : Unit := ()
noncomputable def Lm.h0.tw10465387412232131996 : Unit := ()
noncomputable def Lm.h0.tw16331288328790800559 : Unit := ()
noncomputable def Lm.h0.tw3144097867833071508 : Unit := ()
noncomputable def Lm.h0.tw15836918929987429249 : Unit := ()
noncomputable def Lm.h0.tw11945722351557538523 : Unit := ()
noncomputable def Lm.h0.tw8687418035843612589 : Unit := ()
noncomputable def Lm.h0.tw17327369283973484904 : Unit := ()
noncomputable def Lm.h0.tw8595035978453350784 : Unit := ()
noncomputable def Lm.h0.tw9068228108801537169 : Unit := ()
noncomputable def Lm.h0.tw2333140167714800451 : Unit := ()
noncomputable def Lm.h0.tw15635209314998957724 : Unit := ()
noncomputable def Lm.h0.tw2170816279123893980 : Unit := ()
noncomputable def Lm.h0.tw12862021381595460722 : Unit := ()
noncomputable def Lm.h0.tw5676029895829387107 : Unit := ()
noncomputable def Lm.h0.tw15291497926231231139 : Unit := ()
noncomputable def Lm.h0.tw4233860359280347859 : Unit := ()
noncomputable def Lm.h0.tw11576061400589936808 : Unit := ()
noncomputable def Lm.h0.tw5001634102868219593 : Unit := ()
noncomputable def Lm.h0.tw1363748420456470158 : Unit := ()
noncomputable def Lm.h0.tw18049466949348431998 : Unit := ()
noncomputable def Lm.h0.tw1088529746731389085 : Unit := ()
noncomputable def Lm.h0.tw9876959823295833445 : Unit := ()
noncomputable def Lm.h0.tw9939471658126741785 : Unit := ()
noncomputable def Lm.h0.tw8963267776857918744 : Unit := ()
noncomputable def Lm.h0.tw53829868605083057 : Unit := ()
noncomputable def Lm.h0.tw17921570928105218452 : Unit := ()
noncomputable def Lm.h0.tw9085109636754966959 : Unit := ()
noncomputable def Lm.h0.tw1959892312794371114 : Unit := ()
noncomputable def Lm.h0.tw185917074168110660 : Unit := ()
noncomputable def Lm.h0.tw7204651573932398199 : Unit := ()
noncomputable def Lm.h0.tw7710202643691428816 : Unit := ()
noncomputable def Lm.h0.tw11844107460137933640 : Unit := ()
noncomputable def Lm.h0.tw5906837096071820142 : Unit := ()
noncomputable def Lm.h0.tw181842138699757481 : Unit := ()
noncomputable def Lm.h0.tw9743728805728969326 : Unit := ()
noncomputable def Lm.h0.tw13335345601289005718 : Unit := ()
noncomputable def Lm.h0.tw4439922644185806747 : Unit := ()
noncomputable def Lm.h0.tw16295337847638926219 : Unit := ()
noncomputable def Lm.h0.tw11637525849754362444 : Unit := ()
noncomputable def Lm.h0.tw17047738394364758070 : Unit := ()
noncomputable def Lm.h0.tw8716042468911391664 : Unit := ()
noncomputable def Lm.h0.tw2662893854885431817 : Unit := ()
noncomputable def Lm.h0.tw9751659379330892828 : Unit := ()
noncomputable def Lm.h0.tw7453814916638281403 : Unit := ()
noncomputable def Lm.h0.tw1362548413157600467 : Unit := ()
noncomputable def Lm.h0.tw6767379072477402338 : Unit := ()
noncomputable def Lm.h0.tw10940364450241263440 : Unit := ()
noncomputable def Lm.h0.tw16269623434424220643 : Unit := ()
noncomputable def Lm.h0.tw2611125749770574578 : Unit := ()
noncomputable def Lm.h0.tw4580185429126029548 : Unit := ()
noncomputable def Lm.h0.tw5949081174823451097 : Unit := ()
noncomputable def Lm.h0.tw1197909583812807506 : Unit := ()
noncomputable def Lm.h0.tw1484764670047300800 : Unit := ()
noncomputable def Lm.h0.tw12258391350249095445 : Unit := ()
noncomputable def Lm.h0.tw12216971164408508166 : Unit := ()
noncomputable def Lm.h0.tw11108253951805451319 : Unit := ()
noncomputable def Lm.h0.tw16399282844805090834 : Unit := ()
noncomputable def Lm.h0.tw6225668793349660123 : Unit := ()
noncomputable def Lm.h0.tw10716712677766663963 : Unit := ()
noncomputable def Lm.h0.tw4233052452293793346 : Unit := ()
noncomputable def Lm.h0.tw14845688743745166134 : Unit := ()
noncomputable def Lm.h0.tw14740057032720142754 : Unit := ()
noncomputable def Lm.h0.tw8304541372208791899 : Unit := ()
noncomputable def Lm.h0.tw17179380940183778096 : Unit := ()
noncomputable def Lm.h0.tw11559890361561423045 : Unit := ()
noncomputable def Lm.h0.tw6611515744477822512 : Unit := ()
noncomputable def Lm.h0.tw5129680842083786130 : Unit := ()
noncomputable def Lm.h0.tw15103054515249332286 : Unit := ()
noncomputable def Lm.h0.tw14755029719526878717 : Unit := ()
noncomputable def Lm.h0.tw1420836356676011977 : Unit := ()
noncomputable def Lm.h0.tw2436952453906052998 : Unit := ()
noncomputable def Lm.h0.tw14935409183732045750 : Unit := ()
noncomputable def Lm.h0.tw6851434807876679966 : Unit := ()
noncomputable def Lm.h0.tw12884870571336489594 : Unit := ()
noncomputable def Lm.h0.tw17201357768558012475 : Unit := ()
noncomputable def Lm.h0.tw3891673709765748116 : Unit := ()
noncomputable def Lm.h0.tw7113287582527408242 : Unit := ()
noncomputable def Lm.h0.tw1127217590497126241 : Unit := ()
noncomputable def Lm.h0.tw834864984986911303 : Unit := ()
noncomputable def Lm.h0.tw6305002427007485444 : Unit := ()
noncomputable def Lm.h0.tw13833966541110923115 : Unit := ()
noncomputable def Lm.h0.tw13692804762361404408 : Unit := ()
noncomputable def Lm.h0.tw16916617363369923780 : Unit := ()
noncomputable def Lm.h0.tw17857289217080879767 : Unit := ()
noncomputable def Lm.h0.tw13833272876692754538 : Unit := ()
noncomputable def Lm.h0.tw11131878098538783770 : Unit := ()
noncomputable def Lm.h0.tw13788390554176442674 : Unit := ()
noncomputable def Lm.h0.tw12596882436645520380 : Unit := ()
noncomputable def Lm.h0.tw14388652558804766623 : Unit := ()
noncomputable def Lm.h0.tw15081412995351373172 : Unit := ()
noncomputable def Lm.h0.tw12693390248035934060 : Unit := ()
noncomputable def Lm.h0.tw4144850086847979598 : Unit := ()
noncomputable def Lm.h0.tw15890411709221567001 : Unit := ()
noncomputable def Lm.h0.tw1700063646280205804 : Unit := ()
noncomputable def Lm.h0.tw11200872549437169426 : Unit := ()
noncomputable def Lm.h0.tw11686709210746608967 : Unit := ()
noncomputable def Lm.h0.tw15530320345175038466 : Unit := ()
noncomputable def Lm.h0.tw6552852402120706566 : Unit := ()
noncomputable def Lm.h0.tw13346457173494147500 : Unit := ()
noncomputable def Lm.h0.tw1813288601668016973 : Unit := ()
noncomputable def Lm.h0.tw9701627251247234844 : Unit := ()
noncomputable def Lm.h0.tw1446712967312213103 : Unit := ()
noncomputable def Lm.h0.tw6800974019886841489 : Unit := ()
noncomputable def Lm.h0.tw253518825864419676 : Unit := ()
noncomputable def Lm.h0.tw1041145295978640618 : Unit := ()
noncomputable def Lm.h0.tw11015587116223195397 : Unit := ()
noncomputable def Lm.h0.tw9387726978174142911 : Unit := ()
noncomputable def Lm.h0.tw11227040670895841271 : Unit := ()
noncomputable def Lm.h0.tw11732951174065980650 : Unit := ()
noncomputable def Lm.h0.tw5327950536455852221 : Unit := ()
noncomputable def Lm.h0.tw2823433098484777057 : Unit := ()
noncomputable def Lm.h0.tw6595957667995174932 : Unit := ()
noncomputable def Lm.h0.tw3652470888766166991 : Unit := ()
noncomputable def Lm.h0.tw3277676968971026982 : Unit := ()
noncomputable def Lm.h0.tw9130986781541165746 : Unit := ()
noncomputable def Lm.h0.tw13893343766864560899 : Unit := ()
noncomputable def Lm.h0.tw2246753572175049720 : Unit := ()
noncomputable def Lm.h0.tw4272746460726027519 : Unit := ()
noncomputable def Lm.h0.tw11826480661865807366 : Unit := ()
noncomputable def Lm.h0.tw323300992937933303 : Unit := ()
noncomputable def Lm.h0.tw4922635360242308514 : Unit := ()
noncomputable def Lm.h0.tw13962316584979057499 : Unit := ()
noncomputable def Lm.h0.tw3194645229922292159 : Unit := ()
noncomputable def Lm.h0.tw10018706624446197623 : Unit := ()
noncomputable def Lm.h0.tw5257311757907025180 : Unit := ()
noncomputable def Lm.h0.tw13916652810738128944 : Unit := ()
noncomputable def Lm.h0.tw122817975602939696 : Unit := ()
noncomputable def Lm.h0.tw5645884322369192744 : Unit := ()
noncomputable def Lm.h0.tw6718459677230962649 : Unit := ()
noncomputable def Lm.h0.tw4370854709492126730 : Unit := ()
noncomputable def Lm.h0.tw2787109461970837036 : Unit := ()
noncomputable def Lm.h0.tw11260896618272640951 : Unit := ()
noncomputable def Lm.h0.tw9618701730575193904 : Unit := ()
noncomputable def Lm.h0.tw7452952807614855998 : Unit := ()
noncomputable def Lm.h0.tw13491465764584626083 : Unit := ()
noncomputable def Lm.h0.tw16288254802882783439 : Unit := ()
noncomputable def Lm.h0.tw7844559749430369912 : Unit := ()
noncomputable def Lm.h0.tw12211870328748277928 : Unit := ()
noncomputable def Lm.h0.tw4344103506937545156 : Unit := ()
noncomputable def Lm.h0.tw18408887696028965148 : Unit := ()
noncomputable def Lm.h0.tw2370584529899079220 : Unit := ()
noncomputable def Lm.h0.tw4460141347424020194 : Unit := ()
noncomputable def Lm.h0.tw2619513037088103047 : Unit := ()
noncomputable def Lm.h0.tw16538812463676568561 : Unit := ()
noncomputable def Lm.h0.tw15542245885262802346 : Unit := ()
noncomputable def Lm.h0.tw8185523921256445885 : Unit := ()
noncomputable def Lm.h0.tw10593436616017586475 : Unit := ()
noncomputable def Lm.h0.tw2702694083459089481 : Unit := ()
noncomputable def Lm.h0.tw3676911519710589332 : Unit := ()
noncomputable def Lm.h0.tw18166292604986820519 : Unit := ()
noncomputable def Lm.h0.tw3599184201435404891 : Unit := ()
noncomputable def Lm.h0.tw18257529563945573792 : Unit := ()
noncomputable def Lm.h0.tw14141235014574957506 : Unit := ()
noncomputable def Lm.h0.tw13111066595526268661 : Unit := ()
noncomputable def Lm.h0.tw936382903947888045 : Unit := ()
noncomputable def Lm.h0.tw7168724228344476184 : Unit := ()
noncomputable def Lm.h0.tw4189808104571385997 : Unit := ()
noncomputable def Lm.h0.tw1941781509776731146 : Unit := ()
noncomputable def Lm.h0.tw16011095942082777811 : Unit := ()
noncomputable def Lm.h0.tw12180677432207129448 : Unit := ()
noncomputable def Lm.h0.tw9947261165671242648 : Unit := ()
noncomputable def Lm.h0.tw9876694233848168072 : Unit := ()
noncomputable def Lm.h0.tw9050466223543902854 : Unit := ()
noncomputable def Lm.h0.tw6434444326790926826 : Unit := ()
noncomputable def Lm.h0.tw5307291979302486274 : Unit := ()
noncomputable def Lm.h0.tw4961931726872994618 : Unit := ()
noncomputable def Lm.h0.tw2868095536061448468 : Unit := ()
noncomputable def Lm.h0.tw1713142436127677049 : Unit := ()
noncomputable def Lm.h0.tw15457739177958703444 : Unit := ()
noncomputable def Lm.h0.tw1221066422787503681 : Unit := ()
noncomputable def Lm.h0.tw11564324646429559496 : Unit := ()
noncomputable def Lm.h0.tw10989095479975569723 : Unit := ()
noncomputable def Lm.h0.tw14280096343992226657 : Unit := ()
noncomputable def Lm.h0.tw2999891402943683663 : Unit := ()
noncomputable def Lm.h0.tw14638797593743462262 : Unit := ()
noncomputable def Lm.h0.tw797660006433754846 : Unit := ()
noncomputable def Lm.h0.tw5442861929713108565 : Unit := ()
noncomputable def Lm.h0.tw8850528401709637728 : Unit := ()
noncomputable def Lm.h0.tw2018141889521712071 : Unit := ()
noncomputable def Lm.h0.tw14100430657254398942 : Unit := ()
noncomputable def Lm.h0.tw9495540779899002956 : Unit := ()
noncomputable def Lm.h0.tw3273928135304642942 : Unit := ()
noncomputable def Lm.h0.tw18108236053766621894 : Unit := ()
noncomputable def Lm.h0.tw16012211424183833193 : Unit := ()
noncomputable def Lm.h0.tw15055841000767539362 : Unit := ()
noncomputable def Lm.h0.tw12776317810724157258 : Unit := ()
noncomputable def Lm.h0.tw9213893897048911924 : Unit := ()
noncomputable def Lm.h0.tw14764546223089464254 : Unit := ()
noncomputable def Lm.h0.tw7098985815870469914 : Unit := ()
noncomputable def Lm.h0.tw7179445633766652153 : Unit := ()
noncomputable def Lm.h0.tw8736138845876152186 : Unit := ()
noncomputable def Lm.h0.tw6144546818224138792 : Unit := ()
noncomputable def Lm.h0.tw3710974909092774284 : Unit := ()
noncomputable def Lm.h0.tw16912901696018246290 : Unit := ()
noncomputable def Lm.h0.tw14147127712322791280 : Unit := ()
noncomputable def Lm.h0.tw2288146946811493291 : Unit := ()
noncomputable def Lm.h0.tw16887901771685332664 : Unit := ()
noncomputable def Lm.h0.tw13602808375427307126 : Unit := ()
noncomputable def Lm.h0.tw11800251109522695726 : Unit := ()
noncomputable def Lm.h0.tw11530698988152340430 : Unit := ()
noncomputable def Lm.h0.tw318958974730402989 : Unit := ()
noncomputable def Lm.h0.tw961289797218202158 : Unit := ()
noncomputable def Lm.h0.tw8867153559573540083 : Unit := ()
noncomputable def Lm.h0.tw8790632794353282912 : Unit := ()
noncomputable def Lm.h0.tw8533370045832613496 : Unit := ()
noncomputable def Lm.h0.tw8052639240440427498 : Unit := ()
noncomputable def Lm.h0.tw8005725081388759462 : Unit := ()
noncomputable def Lm.h0.tw7802495169048638441 : Unit := ()
noncomputable def Lm.h0.tw7317959280993214572 : Unit := ()
noncomputable def Lm.h0.tw6884100759004854644 : Unit := ()
noncomputable def Lm.h0.tw5716370326196459710 : Unit := ()
noncomputable def Lm.h0.tw5686324289523755334 : Unit := ()
noncomputable def Lm.h0.tw4889353294927039615 : Unit := ()
noncomputable def Lm.h0.tw488273320518528328 : Unit := ()
noncomputable def Lm.h0.tw4788607279987834689 : Unit := ()
noncomputable def Lm.h0.tw3501835842936481117 : Unit := ()
noncomputable def Lm.h0.tw274453870732800480 : Unit := ()
noncomputable def Lm.h0.tw2603447091341784180 : Unit := ()
noncomputable def Lm.h0.tw2346054891832033931 : Unit := ()
noncomputable def Lm.h0.tw17272201470788198055 : Unit := ()
noncomputable def Lm.h0.tw15330826449862210287 : Unit := ()
noncomputable def Lm.h0.tw15292609338494649465 : Unit := ()
noncomputable def Lm.h0.tw14561536752535033603 : Unit := ()
noncomputable def Lm.h0.tw14092007967491545554 : Unit := ()
noncomputable def Lm.h0.tw13190261910757245771 : Unit := ()
noncomputable def Lm.h0.tw12839700405646480841 : Unit := ()
noncomputable def Lm.h0.tw12723965850569862199 : Unit := ()
noncomputable def Lm.h0.tw11830376836760278243 : Unit := ()
noncomputable def Lm.h0.tw6798425255793496728 : Unit := ()
noncomputable def Lm.h0.tw17954857603439008462 : Unit := ()
noncomputable def Lm.h0.tw9048235904942193468 : Unit := ()
noncomputable def Lm.h0.tw8193200168314908765 : Unit := ()
noncomputable def Lm.h0.tw8057634869923465395 : Unit := ()
noncomputable def Lm.h0.tw5639793489365365661 : Unit := ()
noncomputable def Lm.h0.tw5517027296799855568 : Unit := ()
noncomputable def Lm.h0.tw5403713175068616916 : Unit := ()
noncomputable def Lm.h0.tw2953016900111168319 : Unit := ()
noncomputable def Lm.h0.tw2093500315573163288 : Unit := ()
noncomputable def Lm.h0.tw18268233315385502591 : Unit := ()
noncomputable def Lm.h0.tw16764405005125571858 : Unit := ()
noncomputable def Lm.h0.tw12385746926295660980 : Unit := ()
noncomputable def Lm.h0.tw11536349785939382898 : Unit := ()
noncomputable def Lm.h0.tw10645698166444907966 : Unit := ()
noncomputable def Lm.h0.tw5233282126094386990 : Unit := ()
theorem Lm.lawRuns : Lm.LawRuns := fun _ h => Lm.law_any h
set_option Elab.async true in
set_option maxRecDepth 100000 in
set_option maxHeartbeats 8000000 in
theorem Lm.h0 : PySem.Challenge.rw_pc0382_01.Holds := by
  w_on
  o_law
  k_head
  (case hw => w_witness2)
  k_go0
  rename Fr _ _ _ _ => frX
  rename Top _ _ _ _ _ _ => topX
  rename Glob _ _ _ _ _ _ _ _ => glX
  rename Frag.In _ _ => kX
  rename Well _ _ _ _ => wlX
  rename ¬ _ < _ => lnX
  rename Shared.gens _ = _ => gnX
  refine Lm.join (cd := _) (nm := _) Lm.lawRuns (fun p => ?_) kX topX.g topX.b topX.builtins topX.nolimit glX.seer frX rfl wlX (by omega) (fun h' tk' hk => ?_)
  · exact ⟨by kernel_rfl, by kernel_rfl, by kernel_rfl, by kernel_rfl, by kernel_rfl, by kernel_rfl, by kernel_rfl, by kernel_rfl, by kernel_rfl, by kernel_rfl, by kernel_rfl, by kernel_rfl, by kernel_rfl, by kernel_rfl, by kernel_rfl, by kernel_rfl⟩
  · exact ⟨.inl ⟨_, .bool true, [], rfl, fun _ => rfl, .bool true, by kernel_rfl, fun _ => ⟨List.nodup_nil, fun a ha => by cases ha⟩⟩, hk, rfl, gnX⟩
theorem PySem.Challenge.cw_pc0382_01_holds : PySem.Challenge.rw_pc0382_01.Holds :=
  Lm.h0
