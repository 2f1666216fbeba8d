import PyProof.Rows.All
import Wide.All
import OpenK.AllK
import Wide.FinOn
import PySem.Challenge.RW_on0110_01
open PySem PySem.W PySem.Calls PyProof.Rows PySem.Spec
set_option Elab.async false
set_option maxRecDepth 100000
set_option maxHeartbeats 8000000
namespace Mine

/-! ## plain data, ropes, letters -/

inductive D where
  | none
  | bool (b : Bool)
  | int (i : Int)
  | wid
  | str (l : List Nat)
  | tup (l : List D)

structure Va where
  nm : List Nat
  sp : List Nat
  wt : List Nat
  wid : Int

structure Va.Ok (V : Va) : Prop where
  nm : V.nm.length ≤ 8
  sp : V.sp.length ≤ 8
  wt : V.wt.length ≤ 8
  lo : 0 ≤ V.wid
  hi : V.wid < 64
  txt : V.wt = (Str.ofString (toString V.wid)).cps.toList

noncomputable abbrev NM : Nat := 2000000
noncomputable abbrev SP : Nat := 2000001
noncomputable abbrev WT : Nat := 2000002

noncomputable def Va.one (V : Va) (c : Nat) : List Nat := if c = NM then V.nm else if c = SP then V.sp else if c = WT then V.wt else [c]
noncomputable def Va.den (V : Va) (l : List Nat) : Str := ⟨(l.flatMap V.one).toArray⟩

noncomputable def closed : List Nat → Bool
  | [] => true
  | c :: r => Nat.blt c 2000000 && closed r

theorem den_append (V : Va) (a b : List Nat) : V.den (a ++ b) = V.den a ++ V.den b := by
  apply Str.ext'
  rw [Str.cps_append]
  simp [Va.den, List.flatMap_append]

theorem one_len (V : Va) (O : V.Ok) (c : Nat) : (V.one c).length ≤ 8 := by
  unfold Va.one
  split
  · exact O.nm
  · split
    · exact O.sp
    · split
      · exact O.wt
      · simp

theorem den_len (V : Va) (O : V.Ok) : ∀ l : List Nat, (V.den l).length ≤ 8 * l.length
  | [] => by simp [Va.den, Str.length]
  | c :: r => by
    have h1 := one_len V O c
    have h2 := den_len V O r
    simp only [Va.den, Str.length, List.size_toArray, List.flatMap_cons, List.length_append, List.length_cons] at h2 ⊢
    omega

theorem closed_one (V : Va) {c : Nat} (h : Nat.blt c 2000000 = true) : V.one c = [c] := by
  have h' : c < 2000000 := Nat.le_of_ble_eq_true h
  unfold Va.one
  rw [if_neg (Nat.ne_of_lt h'), if_neg (Nat.ne_of_lt (Nat.lt_succ_of_lt h')), if_neg (Nat.ne_of_lt (Nat.lt_succ_of_lt (Nat.lt_succ_of_lt h')))]

theorem den_closed (V : Va) : ∀ {l : List Nat}, closed l = true → V.den l = ⟨l.toArray⟩ := by
  have key : ∀ {l : List Nat}, closed l = true → l.flatMap V.one = l := by
    intro l
    induction l with
    | nil => intro _; rfl
    | cons c r ih =>
      intro h
      have h' := Bool.and_eq_true_iff.mp h
      rw [List.flatMap_cons, closed_one V h'.1, ih h'.2]; rfl
  intro l h
  unfold Va.den; rw [key h]

noncomputable def nEq : List Nat → List Nat → Bool
  | [], [] => true
  | a :: as, b :: bs => Nat.beq a b && nEq as bs
  | _, _ => false
theorem nEq_iff : ∀ {a b : List Nat}, nEq a b = true ↔ a = b
  | [], [] => ⟨fun _ => rfl, fun _ => rfl⟩
  | [], _ :: _ => ⟨fun h => by simp [nEq] at h, fun h => by cases h⟩
  | _ :: _, [] => ⟨fun h => by simp [nEq] at h, fun h => by cases h⟩
  | a :: as, b :: bs => by
    rw [nEq, Bool.and_eq_true_iff, nEq_iff (a := as) (b := bs), List.cons.injEq]
    exact ⟨fun h => ⟨Nat.eq_of_beq_eq_true h.1, h.2⟩, fun h => ⟨h.1 ▸ Nat.beq_refl a, h.2⟩⟩

noncomputable def sEq (a b : Str) : Bool := nEq a.cps.toList b.cps.toList
theorem sEq_iff {a b : Str} : sEq a b = true ↔ a = b := by
  unfold sEq
  rw [nEq_iff]
  exact ⟨fun h => Str.ext' (Array.ext' h), fun h => by rw [h]⟩
theorem sEq_false {a b : Str} (h : sEq a b = false) : a ≠ b := fun e => by
  rw [sEq_iff.mpr e] at h; cases h
theorem beq_sEq (a b : Str) : (a == b) = sEq a b := by
  cases h : sEq a b with
  | true => rw [sEq_iff.mp h]; exact beq_self_eq_true b
  | false => exact beq_eq_false_iff_ne.mpr (sEq_false h)

noncomputable def kindL : List (Str × NameKind) → Str → Option NameKind
  | [], _ => .none
  | p :: r, x => match sEq x p.1 with
    | true => some p.2
    | false => kindL r x
theorem kindL_eq : ∀ (l : List (Str × NameKind)) (x : Str), l.lookup x = kindL l x
  | [], _ => rfl
  | p :: r, x => by
    obtain ⟨y, k⟩ := p
    rw [List.lookup_cons, kindL, beq_sEq]
    cases h : sEq x y <;> simp [kindL_eq r x]

noncomputable def isLoc (sc : Scope) (x : Str) : Bool := match kindL sc.names x with
  | some .local => !(sEq x (Str.ofString "__debug__"))
  | _ => false
noncomputable def isGlo (sc : Scope) (x : Str) : Bool := match kindL sc.names x with
  | some .globalImplicit => !(sEq x (Str.ofString "__debug__"))
  | _ => false
theorem isLoc_of {sc : Scope} {x : Str} (h : isLoc sc x = true) : sc.names.lookup x = some .local ∧ (x == Str.ofString "__debug__") = false := by
  unfold isLoc at h
  split at h
  · rename_i e
    rw [kindL_eq, e, beq_sEq]
    exact ⟨rfl, by simpa using h⟩
  · cases h
theorem isGlo_of {sc : Scope} {x : Str} (h : isGlo sc x = true) : sc.names.lookup x = some .globalImplicit ∧ (x == Str.ofString "__debug__") = false := by
  unfold isGlo at h
  split at h
  · rename_i e
    rw [kindL_eq, e, beq_sEq]
    exact ⟨rfl, by simpa using h⟩
  · cases h

/-! ## what the ledger says -/

noncomputable abbrev tupO (vs : List Value) : Obj := { cls := .type "tuple", data := .seq vs.toArray }

mutual
inductive R (V : Va) (news : List (Addr × Obj)) : Value → D → Prop
  | none : R V news .none .none
  | bool (b : Bool) : R V news (.bool b) (.bool b)
  | int (i : Int) (t : Tok) : R V news (.int i t) (.int i)
  | wid (t : Tok) : R V news (.int V.wid t) .wid
  | str (l : List Nat) (t : Tok) : R V news (.str (V.den l) t) (.str l)
  | tup {a : Addr} {vs : List Value} {ds : List D} (hm : (a, tupO vs) ∈ news) (hs : RL V news vs ds) : R V news (.ref a) (.tup ds)
inductive RL (V : Va) (news : List (Addr × Obj)) : List Value → List D → Prop
  | nil : RL V news [] []
  | cons {v : Value} {d : D} {vs : List Value} {ds : List D} (h : R V news v d) (t : RL V news vs ds) : RL V news (v :: vs) (d :: ds)
end

/-- every tuple of the one stands in the other -/
noncomputable def Tups (news news' : List (Addr × Obj)) : Prop := ∀ a vs, (a, tupO vs) ∈ news → (a, tupO vs) ∈ news'
noncomputable def Sub (news news' : List (Addr × Obj)) : Prop := ∀ p ∈ news, p ∈ news'
theorem Sub.refl (l : List (Addr × Obj)) : Sub l l := fun _ h => h
theorem Sub.trans {a b c : List (Addr × Obj)} (h : Sub a b) (k : Sub b c) : Sub a c := fun p hp => k p (h p hp)
theorem Sub.tups {a b : List (Addr × Obj)} (h : Sub a b) : Tups a b := fun _ _ hm => h _ hm
theorem Sub.cons {a : List (Addr × Obj)} (p : Addr × Obj) : Sub a (p :: a) := fun _ h => List.mem_cons_of_mem _ h

mutual
theorem R.mono {V : Va} {news news' : List (Addr × Obj)} (k : Tups news news') : ∀ {v : Value} {d : D}, R V news v d → R V news' v d
  | _, _, .none => .none
  | _, _, .bool b => .bool b
  | _, _, .int i t => .int i t
  | _, _, .wid t => .wid t
  | _, _, .str l t => .str l t
  | _, _, .tup hm hs => .tup (k _ _ hm) (RL.mono k hs)
theorem RL.mono {V : Va} {news news' : List (Addr × Obj)} (k : Tups news news') : ∀ {vs : List Value} {ds : List D}, RL V news vs ds → RL V news' vs ds
  | _, _, .nil => .nil
  | _, _, .cons h t => .cons (R.mono k h) (RL.mono k t)
end

theorem RL.length {V : Va} {news : List (Addr × Obj)} : ∀ {vs : List Value} {ds : List D}, RL V news vs ds → vs.length = ds.length
  | _, _, .nil => rfl
  | _, _, .cons _ t => congrArg (· + 1) t.length
theorem RL.get {V : Va} {news : List (Addr × Obj)} : ∀ {vs : List Value} {ds : List D}, RL V news vs ds → ∀ {i : Nat} {d : D}, ds[i]? = some d → ∃ v, vs[i]? = some v ∧ R V news v d
  | _, _, .nil, _, _, h => by simp at h
  | _, _, .cons h _, 0, _, e => ⟨_, rfl, by simp at e; exact e ▸ h⟩
  | _, _, .cons _ t, i + 1, d, e => by
    obtain ⟨v, a, b⟩ := RL.get t (i := i) (d := d) (by simpa using e)
    exact ⟨v, by simpa using a, b⟩

inductive Slot where
  | val (d : D)
  | lst (ds : List D)

noncomputable abbrev lstO (vs : List Value) (n : Nat) : Obj := { cls := .type "list", data := .seq vs.toArray n }

noncomputable def SlotOk (V : Va) (nb news : List (Addr × Obj)) (v : Value) : Slot → Prop
  | .val d => R V news v d
  | .lst ds => ∃ a vs n, v = .ref a ∧ (a, lstO vs n) ∈ news ∧ RL V news vs ds ∧ ∀ p ∈ nb, p.1 ≠ a

noncomputable def vget : List (Str × Slot) → Str → Option Slot
  | [], _ => .none
  | p :: r, x => match sEq x p.1 with
    | true => some p.2
    | false => vget r x

/-- the frame's names hold what the list says; what stood in the ledger at the start (nb) is there -/
noncomputable def Loc (V : Va) (nb : List (Addr × Obj)) (m : Str → Option Value) (news : List (Addr × Obj)) (vars : List (Str × Slot)) : Prop :=
  ∀ x sl, vget vars x = some sl → ∃ v, m x = some v ∧ SlotOk V nb news v sl

theorem SlotOk.mono {V : Va} {nb news news' : List (Addr × Obj)} (k : Sub news news') {v : Value} : ∀ {sl : Slot}, SlotOk V nb news v sl → SlotOk V nb news' v sl
  | .val _, h => R.mono k.tups h
  | .lst _, ⟨a, vs, n, e, hm, hr, hn⟩ => ⟨a, vs, n, e, k _ hm, RL.mono k.tups hr, hn⟩
theorem Loc.mono {V : Va} {nb news news' : List (Addr × Obj)} (k : Sub news news') {m : Str → Option Value} {vars : List (Str × Slot)} (h : Loc V nb m news vars) : Loc V nb m news' vars :=
  fun x sl e => let ⟨v, a, b⟩ := h x sl e; ⟨v, a, b.mono k⟩

theorem Loc.set {V : Va} {nb news : List (Addr × Obj)} {m : Str → Option Value} {vars : List (Str × Slot)} (h : Loc V nb m news vars) {x : Str} {v : Value} {sl : Slot} (k : SlotOk V nb news v sl) :
    Loc V nb (fun y => if y = x then some v else m y) news ((x, sl) :: vars) := by
  intro y sl' e
  unfold vget at e
  cases q : sEq y x with
  | true =>
    rw [q] at e
    cases e
    exact ⟨v, if_pos (sEq_iff.mp q), k⟩
  | false =>
    rw [q] at e
    obtain ⟨v', a, b⟩ := h y sl' e
    exact ⟨v', (if_neg (sEq_false q)).trans a, b⟩



structure Rho where
  sc : Scope
  vars : List (Str × Slot)

structure FnR where
  params : List Str
  dflt : Bool
  body : List Stmt
  sc : Scope

inductive Out where
  | go (vars : List (Str × Slot))
  | back (d : D)

structure Cfg where
  fn : Str → Option FnR
  gint : Str → Option Int
  orc : Str → List D → Option D

structure Self where
  ex : Rho → Expr → Option D
  te : Rho → Expr → Option Bool
  st : Rho → List Stmt → Option Out
  ca : Str → List D → Option D

/-! ### the words of one step -/

noncomputable def constD : Const → Option D
  | .none => some .none
  | .bool b => some (.bool b)
  | .int i => some (.int i)
  | .str x => match closed x.cps.toList with
    | true => some (.str x.cps.toList)
    | false => none
  | _ => none

noncomputable def nameD (cfg : Cfg) (ρ : Rho) (x : Str) : Option D := match isLoc ρ.sc x with
  | true => match vget ρ.vars x with
    | some (.val d) => some d
    | _ => none
  | false => match isGlo ρ.sc x with
    | true => match cfg.gint x with
      | some i => some (.int i)
      | none => none
    | false => none

noncomputable def isStar : Expr → Bool
  | .Starred .. => true
  | _ => false
noncomputable def isSet : Expr → Bool
  | .Set .. => true
  | _ => false
noncomputable def isSlice : Expr → Bool
  | .Slice .. => true
  | _ => false
noncomputable def isComp : Expr → Bool
  | .ListComp .. => true
  | .SetComp .. => true
  | .DictComp .. => true
  | _ => false

noncomputable def mapEx (f : Expr → Option D) : List Expr → Option (List D)
  | [] => some []
  | e :: r => match isStar e with
    | true => none
    | false => match f e with
      | some d => match mapEx f r with
        | some ds => some (d :: ds)
        | none => none
      | none => none

noncomputable def short (l : List Nat) : Bool := Nat.blt l.length 100000

noncomputable def binD : Operator → D → D → Option D
  | .Add, .str a, .str b => match short a && short b with
    | true => some (.str (a ++ b))
    | false => none
  | .Sub, .int i, .int j => some (.int (i - j))
  | .LShift, .int i, .int j => match decide (0 ≤ j ∧ j ≤ 100 ∧ 0 ≤ i ∧ i < 1000) with
    | true => some (.int (i * 2 ^ j.toNat))
    | false => none
  | _, _, _ => none

noncomputable def ropeEq (a b : List Nat) : Option Bool := match nEq a b with
  | true => some true
  | false => match closed a && closed b with
    | true => some false
    | false => none

noncomputable def isNoneD : D → Bool
  | .none => true
  | _ => false

/-- y begins at some place of x -/
noncomputable def prefB : List Nat → List Nat → Bool
  | [], _ => true
  | _ :: _, [] => false
  | a :: as, b :: bs => Nat.beq a b && prefB as bs
noncomputable def inB (y : List Nat) : List Nat → Bool
  | [] => prefB y []
  | c :: r => prefB y (c :: r) || inB y r

noncomputable def leB : List Nat → List Nat → Option Bool
  | [a], [b] => some (Nat.ble a b)
  | _, _ => none

noncomputable def cmpD : CmpOp → D → D → Option Bool
  | .Eq, .str a, .str b => ropeEq a b
  | .NotEq, .str a, .str b => match ropeEq a b with
    | some c => some (!c)
    | none => none
  | .NotEq, .none, .none => some false
  | .Eq, .int i, .int j => some (i == j)
  | .Lt, .wid, .int j => match decide (64 ≤ j) with
    | true => some true
    | false => none
  | .Lt, .int i, .int j => some (decide (i < j))
  | .LtE, .str a, .str b => match closed a && closed b with
    | true => leB a b
    | false => none
  | .Is, d, .none => some (isNoneD d)
  | .IsNot, d, .none => some (!isNoneD d)
  | .NotIn, .str y, .str x => match closed y && closed x with
    | true => some (!inB y x)
    | false => none
  | _, _, _ => none

noncomputable def getD? : List D → Nat → Option D
  | [], _ => none
  | d :: _, 0 => some d
  | _ :: r, n + 1 => getD? r n
noncomputable def getN? : List Nat → Nat → Option Nat
  | [], _ => none
  | d :: _, 0 => some d
  | _ :: r, n + 1 => getN? r n

/-- all but the last sign, which is no letter -/
noncomputable def initR : List Nat → Option (List Nat)
  | [] => none
  | [c] => match Nat.blt c 2000000 with
    | true => some []
    | false => none
  | c :: d :: r => match initR (d :: r) with
    | some l => some (c :: l)
    | none => none

noncomputable def atD (d : D) (k : Int) : Option D := match k with
  | .ofNat n => match d with
    | .tup ds => match Nat.blt n 1000 with
      | true => getD? ds n
      | false => none
    | .str l => match closed l && short l with
      | true => match getN? l n with
        | some c => some (.str [c])
        | none => none
      | false => none
    | _ => none
  | .negSucc _ => none

noncomputable def subD (S : Self) (ρ : Rho) (v i : Expr) : Option D := match v with
  | .Name x p => match i with
    | .Slice none (some u) none _ => match S.ex ρ (.Name x p) with
      | some (.str l) => match S.ex ρ u with
        | some (.int (.negSucc 0)) => match short l with
          | true => match initR l with
            | some l' => some (.str l')
            | none => none
          | false => none
        | _ => none
      | _ => none
    | i => match isSlice i with
      | true => none
      | false => match S.ex ρ (.Name x p) with
        | some d => match S.ex ρ i with
          | some (.int k) => atD d k
          | _ => none
        | none => none
  | _ => none

noncomputable def partD (S : Self) (ρ : Rho) : Expr → Option (List Nat)
  | .Constant (.str x) _ _ => match closed x.cps.toList with
    | true => some x.cps.toList
    | false => none
  | .FormattedValue v (.negSucc 0) none _ => match S.ex ρ v with
    | some (.str l) => match short l with
      | true => some l
      | false => none
    | _ => none
  | _ => none
noncomputable def joinD (S : Self) (ρ : Rho) : List Nat → List Expr → Option (List Nat)
  | acc, [] => some acc
  | acc, e :: r => match partD S ρ e with
    | some l => match short acc && short l with
      | true => joinD S ρ (acc ++ l) r
      | false => none
    | none => none

noncomputable def boolD : Option D → Option Bool
  | some (.bool b) => some b
  | _ => none

noncomputable def strsD : List D → Option (List (List Nat))
  | [] => some []
  | .str l :: r => match short l with
    | true => match strsD r with
      | some ls => some (l :: ls)
      | none => none
    | false => none
  | _ :: _ => none
noncomputable def joinR (sep : List Nat) : List (List Nat) → List Nat
  | [] => []
  | [a] => a
  | a :: b :: r => a ++ (sep ++ joinR sep (b :: r))

noncomputable def callsD (S : Self) (f : Str) : List D → Option (List (List Nat))
  | [] => some []
  | d :: r => match S.ca f [d] with
    | some (.str l) => match short l with
      | true => match callsD S f r with
        | some ls => some (l :: ls)
        | none => none
      | false => none
    | _ => none

noncomputable def compOk (f x y : Str) (iter : Expr) (sc : Scope) : Bool :=
  sEq x y && isLoc sc y && isGlo sc f && !isSet iter && (match sc.kind with | .function => true | _ => false) &&
    sc.names.all (fun p => match p.2 with | .local => (match kindL sc.names p.1 with | some .local => true | _ => false) | .globalImplicit => true | _ => false)

noncomputable def compD (S : Self) (ρ : Rho) : Expr → Option (List (List Nat))
  | .ListComp (.Call (.Name f _) [.Name x _] [] _) [⟨.Name y _, iter, [], 0⟩] sc _ =>
    match compOk f x y iter sc with
    | true => match S.ex ρ iter with
      | some (.tup ds) => match strsD ds with
        | some ls => match Nat.blt ls.length 20 with
          | true => callsD S f ds
          | false => none
        | none => none
      | _ => none
    | false => none
  | _ => none

noncomputable def methD (S : Self) (ρ : Rho) (o : Expr) (name : Str) (ap q : Pos) (args : List Expr) : Option D := match o with
  | .Constant (.str sep) _ _ => match Nat.beq ap.endLine q.line && sEq name (Str.ofString "join") && closed sep.cps.toList && Nat.blt sep.cps.toList.length 8 with
    | true => match args with
      | [.Name x _] => match isLoc ρ.sc x with
        | true => match vget ρ.vars x with
          | some (.lst ds) => match strsD ds with
            | some ls => match Nat.blt ls.length 20 with
              | true => some (.str (joinR sep.cps.toList ls))
              | false => none
            | none => none
          | _ => none
        | false => none
      | [e] => match compD S ρ e with
        | some ls => match Nat.blt ls.length 20 with
          | true => some (.str (joinR sep.cps.toList ls))
          | false => none
        | none => none
      | _ => none
    | false => none
  | _ => none

noncomputable def callD (S : Self) (ρ : Rho) (f : Str) (args : List Expr) : Option D := match isGlo ρ.sc f with
  | true => match mapEx (S.ex ρ) args with
    | some ds => match sEq f (Str.ofString "str") with
      | true => match ds with
        | [.wid] => some (.str [WT])
        | [.int 0] => some (.str [48])
        | _ => none
      | false => S.ca f ds
    | none => none
  | false => none

noncomputable def cmp1D (S : Self) (ρ : Rho) (l : Expr) (op : CmpOp) (r : Expr) : Option Bool := match isSet r with
  | true => none
  | false => match S.ex ρ l with
    | some a => match S.ex ρ r with
      | some b => cmpD op a b
      | none => none
    | none => none
/-- l op₁ r₁ op₂ r₂ -/
noncomputable def chainD (S : Self) (ρ : Rho) (l : Expr) (op₁ op₂ : CmpOp) (r₁ r₂ : Expr) : Option Bool := match isSet r₁ || isSet r₂ with
  | true => none
  | false => match S.ex ρ l with
    | some a => match S.ex ρ r₁ with
      | some b => match cmpD op₁ a b with
        | some true => match S.ex ρ r₂ with
          | some c => cmpD op₂ b c
          | none => none
        | some false => some false
        | none => none
      | none => none
    | none => none

noncomputable def stepEx (cfg : Cfg) (S : Self) (ρ : Rho) (e : Expr) : Option D := match e with
  | .Constant c _ _ => constD c
  | .Name x _ => nameD cfg ρ x
  | .Tuple es _ _ => match Nat.blt es.length 1000 with
    | true => match mapEx (S.ex ρ) es with
      | some ds => some (.tup ds)
      | none => none
    | false => none
  | .BinOp l op r _ => match S.ex ρ l with
    | some a => match S.ex ρ r with
      | some b => binD op a b
      | none => none
    | none => none
  | .UnaryOp .USub x _ => match S.ex ρ x with
    | some (.int i) => some (.int (-i))
    | _ => none
  | .UnaryOp .Not x _ => match S.ex ρ x with
    | some (.bool b) => some (.bool (!b))
    | _ => none
  | .IfExp t b o _ => match S.te ρ t with
    | some true => S.ex ρ b
    | some false => S.ex ρ o
    | none => none
  | .Compare l [op] [r] _ => match cmp1D S ρ l op r with
    | some c => some (.bool c)
    | none => none
  | .Compare l [op₁, op₂] [r₁, r₂] _ => match chainD S ρ l op₁ op₂ r₁ r₂ with
    | some c => some (.bool c)
    | none => none
  | .BoolOp _ [x] _ => S.ex ρ x
  | .BoolOp .Or (x :: y :: r) p => match S.ex ρ x with
    | some (.bool true) => some (.bool true)
    | some (.bool false) => S.ex ρ (.BoolOp .Or (y :: r) p)
    | _ => none
  | .BoolOp .And (x :: y :: r) p => match S.ex ρ x with
    | some (.bool false) => some (.bool false)
    | some (.bool true) => S.ex ρ (.BoolOp .And (y :: r) p)
    | _ => none
  | .Subscript v i _ => subD S ρ v i
  | .JoinedStr (a :: b :: r) _ => match joinD S ρ [] (a :: b :: r) with
    | some l => match short l with
      | true => some (.str l)
      | false => none
    | none => none
  | .Call (.Name f _) args [] _ => callD S ρ f args
  | .Call (.Attribute o name ap) args [] q => methD S ρ o name ap q args
  | _ => none

noncomputable def stepTe (S : Self) (ρ : Rho) (e : Expr) : Option Bool := match e with
  | .UnaryOp .Not x _ => match S.te ρ x with
    | some b => some (!b)
    | none => none
  | .BoolOp .And [] _ => some true
  | .BoolOp .And (x :: r) p => match S.te ρ x with
    | some true => S.te ρ (.BoolOp .And r p)
    | some false => some false
    | none => none
  | .BoolOp .Or [] _ => some false
  | .BoolOp .Or (x :: r) p => match S.te ρ x with
    | some true => some true
    | some false => S.te ρ (.BoolOp .Or r p)
    | none => none
  | .Compare l [op] [r] _ => cmp1D S ρ l op r
  | .Compare l [op₁, op₂] [r₁, r₂] _ => chainD S ρ l op₁ op₂ r₁ r₂
  | .Name x p => boolD (S.ex ρ (.Name x p))
  | .Call f as ks p => boolD (S.ex ρ (.Call f as ks p))
  | _ => none

/-- the turns of a loop: x takes each of ds -/
noncomputable def loopD (S : Self) (ρ : Rho) (x : Str) (body : List Stmt) : List D → List (Str × Slot) → Option Out
  | [], vars => some (.go vars)
  | d :: r, vars => match S.st { ρ with vars := (x, .val d) :: vars } body with
    | some (.go vars') => loopD S ρ x body r vars'
    | some (.back d') => some (.back d')
    | none => none

noncomputable def intsD : Nat → Nat → List D
  | _, 0 => []
  | i, n + 1 => .int (.ofNat i) :: intsD (i + 1) n

/-- the items that a for runs over -/
noncomputable def iterD (S : Self) (ρ : Rho) (iter : Expr) : Option (List D) := match iter with
  | .Call (.Name r _) [.Call (.Name l _) [e] [] _] [] _ =>
    match sEq r (Str.ofString "range") && sEq l (Str.ofString "len") && isGlo ρ.sc r && isGlo ρ.sc l && !isStar e with
    | true => match S.ex ρ e with
      | some (.str s) => match closed s && short s with
        | true => some (intsD 0 s.length)
        | false => none
      | _ => none
    | false => none
  | e => match isSet e with
    | true => none
    | false => match S.ex ρ e with
      | some (.tup ds) => some ds
      | _ => none

/-- no other name holds a list -/
noncomputable def soleLst (x : Str) : List (Str × Slot) → Bool
  | [] => true
  | (_, .val _) :: r => soleLst x r
  | (y, .lst _) :: r => sEq y x && soleLst x r

noncomputable def setAll (sc : Scope) : List Expr → List D → List (Str × Slot) → Option (List (Str × Slot))
  | [], [], vars => some vars
  | .Name x _ :: es, d :: ds, vars => match isLoc sc x with
    | true => setAll sc es ds ((x, .val d) :: vars)
    | false => none
  | _, _, _ => none

noncomputable def thenD (S : Self) (ρ : Rho) (rest : List Stmt) : Option Out → Option Out
  | some (.go vars) => S.st { ρ with vars := vars } rest
  | some (.back d) => some (.back d)
  | none => none

noncomputable def stmtD (S : Self) (ρ : Rho) (s : Stmt) : Option Out := match s with
  | .Return (some e) _ => match S.ex ρ e with
    | some d => some (.back d)
    | none => none
  | .Return none _ => some (.back .none)
  | .Assign [.Name x _] v _ => match isLoc ρ.sc x && !isComp v with
    | true => match v with
      | .List [] _ => some (.go ((x, .lst []) :: ρ.vars))
      | v => match S.ex ρ v with
        | some d => some (.go ((x, .val d) :: ρ.vars))
        | none => none
    | false => none
  | .Assign [.Tuple es _ _] (.Name v p) _ => match S.ex ρ (.Name v p) with
    | some (.tup ds) => match setAll ρ.sc es ds ρ.vars with
      | some vars => some (.go vars)
      | none => none
    | _ => none
  | .If t b o _ => match S.te ρ t with
    | some true => S.st ρ b
    | some false => S.st ρ o
    | none => none
  | .Expr (.Call (.Attribute (.Name x _) name ap) [e] [] q) _ => match Nat.beq ap.endLine q.line && sEq name (Str.ofString "append") && isLoc ρ.sc x && !isStar e with
    | true => match vget ρ.vars x with
      | some (.lst ds) => match Nat.blt ds.length 1000 with
        | true => match S.ex ρ e with
          | some d => match soleLst x ρ.vars with
            | true => some (.go ((x, .lst (ds ++ [d])) :: ρ.vars))
            | false => none
          | none => none
        | false => none
      | _ => none
    | false => none
  | .For (.Name x _) iter body [] _ => match isLoc ρ.sc x with
    | true => match iterD S ρ iter with
      | some ds => loopD S ρ x body ds ρ.vars
      | none => none
    | false => none
  | _ => none

noncomputable def stepSt (S : Self) (ρ : Rho) : List Stmt → Option Out
  | [] => some (.go ρ.vars)
  | s :: rest => thenD S ρ rest (stmtD S ρ s)

noncomputable def zipV : List Str → List D → Option (List (Str × Slot))
  | [], [] => some []
  | x :: xs, d :: ds => match zipV xs ds with
    | some r => some ((x, .val d) :: r)
    | none => none
  | _, _ => none

noncomputable def bindD (r : FnR) (ds : List D) : Option (List (Str × Slot)) := match zipV r.params ds with
  | some l => some l.reverse
  | none => match r.dflt with
    | true => match zipV r.params (ds ++ [.bool false]) with
      | some l => some l.reverse
      | none => none
    | false => none

noncomputable def stepCa (cfg : Cfg) (S : Self) (f : Str) (ds : List D) : Option D := match cfg.orc f ds with
  | some d => some d
  | none => match cfg.fn f with
    | some r => match bindD r ds with
      | some vars => match S.st ⟨r.sc, vars⟩ r.body with
        | some (.back d) => some d
        | some (.go _) => some .none
        | none => none
      | none => none
    | none => none

noncomputable def step (cfg : Cfg) (S : Self) : Self :=
  { ex := stepEx cfg S, te := stepTe S, st := stepSt S, ca := stepCa cfg S }
noncomputable def bot : Self := { ex := fun _ _ => none, te := fun _ _ => none, st := fun _ _ => none, ca := fun _ _ => none }
noncomputable def ev (cfg : Cfg) : Nat → Self
  | 0 => bot
  | n + 1 => step cfg (ev cfg n)

/-! ### the text's own defs -/

noncomputable def defOf (f : Str) : List Stmt → Option FnR
  | [] => none
  | .FunctionDef name args body _ _ _ sc _ _ _ :: r => match sEq f name with
    | true => some { params := args.args.map (·.arg), dflt := !args.defaults.isEmpty, body := body, sc := sc }
    | false => defOf f r
  | _ :: r => defOf f r

noncomputable def progBody : List Stmt := PySem.Challenge.pw_on0110_01.main.body



noncomputable abbrev Fa : Value → Shared → Prop := fun _ _ => False

/-- a call's surroundings -/
structure Cx (K : Frag) (pp : Program) (loose : List Str) (mean : ExcName → Option Value) (mg mb : Str → Option Value) (B : Nat) (A : Around) (h₀ : Heap) (cn : Str) (cs : Scope) (L a : Addr) (ccd : Value) (n : Nat) : Prop where
  below : ∃ A₀ base outer, Below A₀ base outer h₀ ∧ A.frames = some (envOf cn cs L a ccd :: outer)
  kin : K.In h₀
  top : Top pp loose mean mg mb h₀
  kind : cs.kind = .function
  hh : A.handled = none
  dep : A.depth + n ≤ B

section
variable {prog : Program} {w : World} {K : Frag} {pp : Program} {loose : List Str} {mean : ExcName → Option Value} {mg mb : Str → Option Value} {V : Va} {cfg : Cfg} {B n : Nat} {S : Self}
variable {A : Around} {h₀ : Heap} {cn : Str} {cs : Scope} {L a : Addr} {ccd : Value} {s : Shared} {m : Str → Option Value} {nb news : List (Addr × Obj)} {ρ : Rho}

theorem Cx.le {k : Nat} (C : Cx K pp loose mean mg mb B A h₀ cn cs L a ccd n) (h : k ≤ n) : Cx K pp loose mean mg mb B A h₀ cn cs L a ccd k :=
  ⟨C.below, C.kin, C.top, C.kind, C.hh, Nat.le_trans (Nat.add_le_add_left h _) C.dep⟩

/-- the tree ends in a value of which P is true; the frame stands, the ledger has grown -/
noncomputable def Gives (M : Model) (A : Around) (h₀ : Heap) (L : Addr) (m : Str → Option Value) (news : List (Addr × Obj)) (s : Shared) {α : Type} (t : Sem α) (P : List (Addr × Obj) → α → Prop) : Prop :=
  ∀ Q : α → Shared → Prop, (∀ v h' tk news', Fr h₀ L h' m → News h₀ L h' news' → Sub news news' → P news' v → Q v { s with heap := h', toks := tk }) → wpAny M A t Q Fa s

theorem Gives.use {M : Model} {α : Type} {t : Sem α} {P : List (Addr × Obj) → α → Prop} (g : Gives M A h₀ L m news s t P) {Q : α → Shared → Prop} {E : Value → Shared → Prop}
    (h : ∀ v h' tk news', Fr h₀ L h' m → News h₀ L h' news' → Sub news news' → P news' v → Q v { s with heap := h', toks := tk }) : wpAny M A t Q E s :=
  wpAny_mono (g Q h) (fun _ _ x => x) (fun _ _ x => x.elim)

noncomputable def ExOk (prog : Program) (w : World) (K : Frag) (pp : Program) (loose : List Str) (mean : ExcName → Option Value) (mg mb : Str → Option Value) (V : Va) (B n : Nat) (S : Self) : Prop :=
  ∀ ρ e d, S.ex ρ e = some d → ∀ A h₀ cn L a ccd, Cx K pp loose mean mg mb B A h₀ cn ρ.sc L a ccd n → ∀ s m nb news, Fr h₀ L s.heap m → News h₀ L s.heap news → Loc V nb m news ρ.vars →
    Gives (model prog w) A h₀ L m news s (eval e (envOf cn ρ.sc L a ccd)) (fun news' v => R V news' v d)

noncomputable def TeOk (prog : Program) (w : World) (K : Frag) (pp : Program) (loose : List Str) (mean : ExcName → Option Value) (mg mb : Str → Option Value) (V : Va) (B n : Nat) (S : Self) : Prop :=
  ∀ ρ e b, S.te ρ e = some b → ∀ A h₀ cn L a ccd, Cx K pp loose mean mg mb B A h₀ cn ρ.sc L a ccd n → ∀ s m nb news, Fr h₀ L s.heap m → News h₀ L s.heap news → Loc V nb m news ρ.vars →
    ∀ whole, ((∀ op es q, e ≠ .BoolOp op es q) → whole = eval e (envOf cn ρ.sc L a ccd)) →
    Gives (model prog w) A h₀ L m news s (PySem.isTrue e (envOf cn ρ.sc L a ccd) whole) (fun _ c => c = b)

/-- the def of that name, called upon these data, hands back that datum -/
noncomputable def CallOk (prog : Program) (w : World) (K : Frag) (pp : Program) (loose : List Str) (mean : ExcName → Option Value) (mg mb : Str → Option Value) (V : Va) (B n : Nat) (f : Str) (ds : List D) (d : D) : Prop :=
  ∃ fa, nsIn K mainGlobals f = some (some (.ref fa)) ∧ keepIn K (.ref fa) = true ∧ ∀ A h₀ cn cs L a ccd, Cx K pp loose mean mg mb B A h₀ cn cs L a ccd n → ∀ s m news vs, Fr h₀ L s.heap m → News h₀ L s.heap news → RL V news vs ds →
    Gives (model prog w) A h₀ L m news s (call (.ref fa) vs) (fun news' v => R V news' v d)

noncomputable def CaOk (prog : Program) (w : World) (K : Frag) (pp : Program) (loose : List Str) (mean : ExcName → Option Value) (mg mb : Str → Option Value) (V : Va) (B n : Nat) (S : Self) : Prop :=
  ∀ f ds d, S.ca f ds = some d → CallOk prog w K pp loose mean mg mb V B n f ds d

/-- the written part has what the evaluator's tables say -/
structure CfgOk (K : Frag) (cfg : Cfg) : Prop where
  gint : ∀ x i, cfg.gint x = some i → ∃ t, nsIn K mainGlobals x = some (some (.int i t))
  str : nsIn K mainGlobals (Str.ofString "str") = some none
  range : nsIn K mainGlobals (Str.ofString "range") = some none
  len : nsIn K mainGlobals (Str.ofString "len") = some none

/-! ### constants, names -/

theorem ex_const {c : Const} {k : Nat} {q : Pos} {d : D} {env : Env} (hd : constD c = some d) (F : Fr h₀ L s.heap m) (N : News h₀ L s.heap news) :
    Gives (model prog w) A h₀ L m news s (eval (.Constant c k q) env) (fun news' v => R V news' v d) := by
  intro Q h
  unfold constD at hd
  split at hd
  · cases hd; exact Constant_none (h _ s.heap s.toks news F N (.refl _) .none)
  · cases hd; exact Constant_bool (h _ s.heap s.toks news F N (.refl _) (.bool _))
  · cases hd; exact wpAny_Constant_int (h _ s.heap _ news F N (.refl _) (.int _ _))
  · rename_i x
    split at hd
    · rename_i hc
      cases hd
      have e : V.den x.cps.toList = x := by rw [den_closed V hc]
      refine Constant_str (h _ s.heap _ news F N (.refl _) ?_)
      have r := R.str (V := V) (news := news) x.cps.toList s.toks
      rw [e] at r; exact r
    · cases hd
  · cases hd

theorem ex_name {x : Str} {q : Pos} {d : D} (G : CfgOk K cfg) (hd : nameD cfg ρ x = some d) (C : Cx K pp loose mean mg mb B A h₀ cn ρ.sc L a ccd n) (F : Fr h₀ L s.heap m) (N : News h₀ L s.heap news) (Y : Loc V nb m news ρ.vars) :
    Gives (model prog w) A h₀ L m news s (eval (.Name x q) (envOf cn ρ.sc L a ccd)) (fun news' v => R V news' v d) := by
  intro Q h
  unfold nameD at hd
  split at hd
  · rename_i hl
    split at hd
    · rename_i d' e
      cases hd
      obtain ⟨v, hv, hr⟩ := Y x _ e
      obtain ⟨k1, k2⟩ := isLoc_of hl
      exact ld F hv (h v s.heap s.toks news F N (.refl _) hr) C.kind k1 k2
    · cases hd
  · split at hd
    · rename_i hg
      split at hd
      · rename_i i e
        cases hd
        obtain ⟨t, ht⟩ := G.gint x i e
        obtain ⟨k1, k2⟩ := isGlo_of hg
        exact name_K F C.kin (topRead_of C.top) ht (h _ s.heap s.toks news F N (.refl _) (.int i t)) C.kind k1 k2
      · cases hd
    · cases hd

/-! ### argument lists -/

theorem star_cons {e : Expr} (h : isStar e = false) (r : List Expr) (env : Env) : starEach (e :: r) env = (false, eval e env) :: starEach r env := by
  cases e <;> first | rfl | (simp [isStar] at h)
theorem mapEx_cons {f : Expr → Option D} {e : Expr} {r : List Expr} {ds : List D} (h : mapEx f (e :: r) = some ds) : isStar e = false ∧ ∃ d ds', f e = some d ∧ mapEx f r = some ds' ∧ ds = d :: ds' := by
  unfold mapEx at h
  split at h
  · cases h
  · rename_i h1
    split at h
    · rename_i d h2
      split at h
      · rename_i ds' h3
        cases h
        exact ⟨h1, d, ds', h2, h3, rfl⟩
      · cases h
    · cases h
theorem plain_args {f : Expr → Option D} {env : Env} {q : Pos} : ∀ {es : List Expr} {ds : List D}, mapEx f es = some ds → (backTo q (starEach es env)).any (·.1) = false
  | [], _, _ => rfl
  | e :: r, ds, h => by
    obtain ⟨h1, _, ds', _, h3, _⟩ := mapEx_cons h
    rw [star_cons h1]
    show (false || (backTo q (starEach r env)).any (·.1)) = false
    rw [plain_args h3]; rfl

theorem ex_args (I : ExOk prog w K pp loose mean mg mb V B n S) {q : Pos} (C : Cx K pp loose mean mg mb B A h₀ cn ρ.sc L a ccd n) : ∀ {es : List Expr} {ds : List D} {s : Shared} {news : List (Addr × Obj)}, mapEx (S.ex ρ) es = some ds → Fr h₀ L s.heap m → News h₀ L s.heap news → Loc V nb m news ρ.vars →
    Gives (model prog w) A h₀ L m news s (spliced (backTo q (starEach es (envOf cn ρ.sc L a ccd)))) (fun news' vs => RL V news' vs ds)
  | [], ds, s, news, h, F, N, _ => by
    unfold mapEx at h; cases h
    intro Q k
    exact spliced_nil (k [] s.heap s.toks news F N (.refl _) .nil)
  | e :: r, ds, s, news, h, F, N, Y => by
    obtain ⟨h1, d, ds', h2, h3, rfl⟩ := mapEx_cons h
    intro Q k
    rw [star_cons h1]
    refine spliced_cons ((I ρ e d h2 A h₀ cn L a ccd C s m nb news F N Y).use fun v h' tk news' F' N' S' r' => ?_)
    refine (ex_args I C h3 (s := { s with heap := h', toks := tk }) F' N' (Y.mono S')).use fun vs h'' tk' news'' F'' N'' S'' r'' => ?_
    exact k _ h'' tk' news'' F'' N'' (S'.trans S'') (.cons (r'.mono S''.tups) r'')

theorem fits_sz {l : List Nat} (O : V.Ok) (h : l.length ≤ 400000) : (V.den l).length ≤ sizeLine := by
  have := den_len V O l
  rw [sizeLine_eq]; omega
theorem short_lt {l : List Nat} (h : short l = true) : l.length < 100000 := Nat.le_of_ble_eq_true h

theorem ex_tuple (I : ExOk prog w K pp loose mean mg mb V B n S) {es : List Expr} {k : Nat} {q : Pos} {ds : List D} (hn : Nat.blt es.length 1000 = true) (hd : mapEx (S.ex ρ) es = some ds)
    (C : Cx K pp loose mean mg mb B A h₀ cn ρ.sc L a ccd n) (F : Fr h₀ L s.heap m) (N : News h₀ L s.heap news) (Y : Loc V nb m news ρ.vars) :
    Gives (model prog w) A h₀ L m news s (eval (.Tuple es k q) (envOf cn ρ.sc L a ccd)) (fun news' v => R V news' v (.tup ds)) := by
  intro Q h
  refine Tuple_ ((ex_args I C hd F N Y).use fun vs h' tk news' F' N' S' r' => ?_)
  have hl : vs.length ≤ sizeLine := by
    have e1 := r'.length
    have e2 : ∀ {es : List Expr} {ds : List D}, mapEx (S.ex ρ) es = some ds → ds.length = es.length := by
      intro es
      induction es with
      | nil => intro ds h; unfold mapEx at h; cases h; rfl
      | cons e r ih => intro ds h; obtain ⟨_, d, ds', _, h3, rfl⟩ := mapEx_cons h; simp [ih h3]
    have e3 := e2 hd
    have e4 : es.length < 1000 := Nat.le_of_ble_eq_true hn
    rw [sizeLine_eq]; omega
  refine newTuple_N (s := { s with heap := h', toks := tk }) F' N' (fun h'' F'' N'' => ?_) hl
  exact h _ h'' tk _ F'' N'' (S'.trans (Sub.cons _)) (.tup List.mem_cons_self (r'.mono (Sub.cons _).tups))

/-! ### operators -/

theorem bin_ok (O : V.Ok) {op : Operator} {x y d : D} {vx vy : Value} (hd : binD op x y = some d) (rx : R V news vx x) (ry : R V news vy y) (F : Fr h₀ L s.heap m) (N : News h₀ L s.heap news) :
    Gives (model prog w) A h₀ L m news s (binaryOp op vx vy) (fun news' v => R V news' v d) := by
  intro Q h
  unfold binD at hd
  split at hd
  · rename_i a b
    split at hd
    · rename_i hs
      cases hd
      cases rx; cases ry
      rename_i t u
      have h1 := short_lt (Bool.and_eq_true_iff.mp hs).1
      have h2 := short_lt (Bool.and_eq_true_iff.mp hs).2
      have l1 := den_len V O a
      have l2 := den_len V O b
      refine add_str (fun t' tk => ?_) (by rw [sizeLine_eq]; omega)
      rw [← den_append]
      exact h _ s.heap tk news F N (.refl _) (.str _ _)
    · cases hd
  · cases hd
    cases rx; cases ry
    exact sub_int (h _ s.heap _ news F N (.refl _) (.int _ _))
  · rename_i i j
    split at hd
    · rename_i hs
      cases hd
      cases rx; cases ry
      have hs' := of_decide_eq_true hs
      refine lshift_int_small hs'.1 (by omega) ?_ (h _ s.heap _ news F N (.refl _) (.int _ _))
      have : i.natAbs < 1000 := by omega
      exact Nat.lt_trans this (by decide)
    · cases hd
  · cases hd

theorem prefB_iff : ∀ {y x : List Nat}, prefB y x = true ↔ x.take y.length = y
  | [], x => by simp [prefB]
  | a :: as, [] => by simp [prefB]
  | a :: as, b :: bs => by
    rw [prefB, Bool.and_eq_true_iff, prefB_iff, List.length_cons, List.take_succ_cons, List.cons.injEq]
    exact ⟨fun h => ⟨(Nat.eq_of_beq_eq_true h.1).symm, h.2⟩, fun h => ⟨h.1 ▸ Nat.beq_refl _, h.2⟩⟩
theorem inB_iff {y : List Nat} : ∀ {x : List Nat}, inB y x = true ↔ ∃ i, i ≤ x.length ∧ (x.drop i).take y.length = y
  | [] => by
    rw [inB, prefB_iff]
    exact ⟨fun h => ⟨0, Nat.le_refl _, h⟩, fun ⟨i, hi, h⟩ => by simpa using h⟩
  | c :: r => by
    rw [inB, Bool.or_eq_true_iff, prefB_iff, inB_iff]
    constructor
    · rintro (h | ⟨i, hi, h⟩)
      · exact ⟨0, Nat.zero_le _, h⟩
      · exact ⟨i + 1, Nat.succ_le_succ hi, h⟩
    · rintro ⟨i, hi, h⟩
      cases i with
      | zero => exact .inl h
      | succ i => exact .inr ⟨i, Nat.le_of_succ_le_succ hi, h⟩

open PySem.Builtin.Str in
theorem occ_inB (x y : List Nat) : (!(occurrences ⟨x.toArray⟩ ⟨y.toArray⟩ 0 (⟨x.toArray⟩ : Str).length 1).isEmpty) = inB y x := by
  have key : (!(occurrences ⟨x.toArray⟩ ⟨y.toArray⟩ 0 (⟨x.toArray⟩ : Str).length 1).isEmpty) = true ↔ inB y x = true := by
    rw [StrLaws.found_iff, inB_iff]
    constructor
    · rintro ⟨i, hi, e⟩
      rw [StrLaws.subAt_eq] at e
      have hi' : i + y.length ≤ x.length := by simpa [Str.length] using hi
      exact ⟨i, by omega, by simpa [Str.length] using e⟩
    · rintro ⟨i, hi, e⟩
      refine ⟨i, ?_, ?_⟩
      · have h1 := congrArg List.length e
        rw [List.length_take, List.length_drop] at h1
        show i + y.length ≤ x.length
        omega
      · rw [StrLaws.subAt_eq]
        simpa [Str.length] using e
  cases h : inB y x with
  | true => exact key.mpr h
  | false =>
    cases q : (!(occurrences ⟨x.toArray⟩ ⟨y.toArray⟩ 0 (⟨x.toArray⟩ : Str).length 1).isEmpty) with
    | false => rfl
    | true => rw [key.mp q] at h; cases h

theorem den_inj_closed {a b : List Nat} (ha : closed a = true) (hb : closed b = true) (h : nEq a b = false) : (V.den a == V.den b) = false := by
  rw [den_closed V ha, den_closed V hb]
  refine beq_eq_false_iff_ne.mpr fun e => ?_
  have e1 : a.toArray = b.toArray := congrArg Str.cps e
  have e2 : a = b := by simpa using congrArg Array.toList e1
  rw [nEq_iff.mpr e2] at h; cases h
theorem rope_eq {a b : List Nat} {c : Bool} (h : ropeEq a b = some c) : (V.den a == V.den b) = c := by
  unfold ropeEq at h
  split at h
  · rename_i e
    cases h
    rw [nEq_iff.mp e]; exact beq_self_eq_true _
  · rename_i e
    split at h
    · rename_i hc
      cases h
      have hc := Bool.and_eq_true_iff.mp hc
      exact den_inj_closed hc.1 hc.2 e
    · cases h
theorem rope_ne {a b : List Nat} {c : Bool} (h : ropeEq a b = some c) : (V.den a != V.den b) = !c := by
  rw [bne, rope_eq h]
theorem le_one {a b : List Nat} {c : Bool} (h : leB a b = some c) : (!decide (b < a)) = c := by
  unfold leB at h
  split at h
  · rename_i x y
    cases h
    cases q : Nat.ble x y with
    | true =>
      have := Nat.le_of_ble_eq_true q
      have h' : ¬ ([y] < [x]) := by
        simp only [List.cons_lt_cons_iff, List.not_lt_nil, and_false, or_false]; omega
      simp [h']
    | false =>
      have : y < x := Nat.lt_of_not_le fun k => by rw [Nat.ble_eq_true_of_le k] at q; cases q
      have h' : ([y] < [x]) := by
        simp only [List.cons_lt_cons_iff, List.not_lt_nil, and_false, or_false]; exact this
      simp [h']
  · cases h

theorem isNone_R {v : Value} {d : D} (r : R V news v d) : (v == Value.none) = isNoneD d := by
  cases r <;> rfl

theorem cmp_ok (O : V.Ok) {op : CmpOp} {x y : D} {c : Bool} {vx vy : Value} (hd : cmpD op x y = some c) (rx : R V news vx x) (ry : R V news vy y) (F : Fr h₀ L s.heap m) (N : News h₀ L s.heap news) :
    Gives (model prog w) A h₀ L m news s (compareOp op vx vy) (fun _ v => v = .bool c) := by
  intro Q h
  have go : ∀ tk, Q (.bool c) { s with heap := s.heap, toks := tk } := fun tk => h _ s.heap tk news F N (.refl _) rfl
  unfold cmpD at hd
  split at hd
  · cases rx; cases ry
    exact eq_str (by rw [rope_eq hd]; exact go _)
  · cases rx; cases ry
    split at hd
    · rename_i e
      cases hd
      exact ne_str (by rw [rope_ne e]; exact go _)
    · cases hd
  · cases hd
    cases rx; cases ry
    exact EqNone.ne_none_none (go _)
  · cases hd
    cases rx; cases ry
    exact eq_int (go _)
  · split at hd
    · rename_i j hj
      cases hd
      cases rx; cases ry
      refine lt_int ?_
      rw [decide_eq_true (Int.lt_of_lt_of_le O.hi (of_decide_eq_true hj))]
      exact go _
    · cases hd
  · cases hd
    cases rx; cases ry
    exact lt_int (go _)
  · split at hd
    · rename_i hc
      have hc := Bool.and_eq_true_iff.mp hc
      cases rx; cases ry
      refine P.le_str ?_
      rw [den_closed V hc.1, den_closed V hc.2]
      show Q (.bool (!decide (_ < _))) s
      simp only [List.toList_toArray]
      rw [le_one hd]
      exact go _
    · cases hd
  · cases hd
    cases ry
    exact is_none_gen (by rw [isNone_R rx]; exact go _)
  · cases hd
    cases ry
    exact isnot_none_gen (by rw [isNone_R rx]; exact go _)
  · split at hd
    · rename_i hc
      cases hd
      have hc := Bool.and_eq_true_iff.mp hc
      cases rx; cases ry
      refine notIn_str ?_
      rw [den_closed V hc.1, den_closed V hc.2, occ_inB]
      exact go _
    · cases hd
  · cases hd

theorem set_marks {op : CmpOp} {e : Expr} (h : isSet e = false) : behindInMarks op e = false := by
  cases e <;> first | rfl | (simp [isSet] at h)

/-! ### comparisons -/

theorem cmp1_ok (O : V.Ok) (I : ExOk prog w K pp loose mean mg mb V B n S) {l r : Expr} {op : CmpOp} {c : Bool} (hd : cmp1D S ρ l op r = some c)
    (C : Cx K pp loose mean mg mb B A h₀ cn ρ.sc L a ccd n) (F : Fr h₀ L s.heap m) (N : News h₀ L s.heap news) (Y : Loc V nb m news ρ.vars) :
    behindInMarks op r = false ∧ ∀ Q : Value → Shared → Prop, (∀ h' tk news', Fr h₀ L h' m → News h₀ L h' news' → Sub news news' → Q (.bool c) { s with heap := h', toks := tk }) →
      wpAny (model prog w) A (eval l (envOf cn ρ.sc L a ccd)) (fun x s₁ => wpAny (model prog w) A (eval r (envOf cn ρ.sc L a ccd)) (fun y s₂ => wpAny (model prog w) A (compareOp op x y) Q Fa s₂) Fa s₁) Fa s := by
  unfold cmp1D at hd
  split at hd
  · cases hd
  · rename_i h0
    split at hd
    · rename_i x h1
      split at hd
      · rename_i y h2
        refine ⟨set_marks h0, fun Q h => ?_⟩
        refine (I ρ l x h1 A h₀ cn L a ccd C s m nb news F N Y).use fun vx h' tk news' F' N' S' rx => ?_
        refine (I ρ r y h2 A h₀ cn L a ccd C { s with heap := h', toks := tk } m nb news' F' N' (Y.mono S')).use fun vy h'' tk' news'' F'' N'' S'' ry => ?_
        refine (cmp_ok (s := { s with heap := h'', toks := tk' }) O hd (rx.mono S''.tups) ry F'' N'').use fun v h3 tk3 news3 F3 N3 S3 e => ?_
        subst e
        exact h h3 tk3 news3 F3 N3 ((S'.trans S'').trans S3)
      · cases hd
    · cases hd

theorem chain_marks {op₁ op₂ : CmpOp} {r₁ r₂ : Expr} (h₂ : isSet r₂ = false) : lastMarks [op₁, op₂] [r₁, r₂] = false := by
  show behindInMarks op₂ r₂ = false
  exact set_marks h₂

/-- a chain of two: after the first comparison the way parts -/
theorem chain_ok (O : V.Ok) (I : ExOk prog w K pp loose mean mg mb V B n S) {l r₁ r₂ : Expr} {op₁ op₂ : CmpOp} {c : Bool} (hd : chainD S ρ l op₁ op₂ r₁ r₂ = some c)
    (C : Cx K pp loose mean mg mb B A h₀ cn ρ.sc L a ccd n) (F : Fr h₀ L s.heap m) (N : News h₀ L s.heap news) (Y : Loc V nb m news ρ.vars) :
    lastMarks [op₁, op₂] [r₁, r₂] = false ∧ ∀ (Q₁ : Value → Value → Shared → Prop),
      (∀ vb h' tk news', c = false → Fr h₀ L h' m → News h₀ L h' news' → Sub news news' → Q₁ vb (.bool false) { s with heap := h', toks := tk }) →
      (∀ vb h' tk news', Fr h₀ L h' m → News h₀ L h' news' → Sub news news' →
        (∀ Q : Value → Shared → Prop, (∀ h'' tk' news'', Fr h₀ L h'' m → News h₀ L h'' news'' → Sub news' news'' → Q (.bool c) { s with heap := h'', toks := tk' }) →
          wpAny (model prog w) A (eval r₂ (envOf cn ρ.sc L a ccd)) (fun y s₂ => wpAny (model prog w) A (compareOp op₂ vb y) Q Fa s₂) Fa { s with heap := h', toks := tk }) →
        Q₁ vb (.bool true) { s with heap := h', toks := tk }) →
      wpAny (model prog w) A (eval l (envOf cn ρ.sc L a ccd)) (fun x s₁ => wpAny (model prog w) A (eval r₁ (envOf cn ρ.sc L a ccd)) (fun y s₂ => wpAny (model prog w) A (compareOp op₁ x y) (Q₁ y) Fa s₂) Fa s₁) Fa s := by
  unfold chainD at hd
  split at hd
  · cases hd
  · rename_i h0
    have h0 := Bool.or_eq_false_iff.mp h0
    refine ⟨chain_marks h0.2, fun Q₁ kf kt => ?_⟩
    split at hd
    · rename_i x h1
      split at hd
      · rename_i y h2
        refine (I ρ l x h1 A h₀ cn L a ccd C s m nb news F N Y).use fun vx h' tk news' F' N' S' rx => ?_
        refine (I ρ r₁ y h2 A h₀ cn L a ccd C { s with heap := h', toks := tk } m nb news' F' N' (Y.mono S')).use fun vy h'' tk' news'' F'' N'' S'' ry => ?_
        split at hd
        · rename_i e1
          refine (cmp_ok (s := { s with heap := h'', toks := tk' }) O e1 (rx.mono S''.tups) ry F'' N'').use fun v h3 tk3 news3 F3 N3 S3 e => ?_
          subst e
          have S03 := (S'.trans S'').trans S3
          refine kt vy h3 tk3 news3 F3 N3 S03 fun Q k => ?_
          split at hd
          · rename_i z h4
            refine (I ρ r₂ z h4 A h₀ cn L a ccd C { s with heap := h3, toks := tk3 } m nb news3 F3 N3 (Y.mono S03)).use fun vz h5 tk5 news5 F5 N5 S5 rz => ?_
            refine (cmp_ok (s := { s with heap := h5, toks := tk5 }) O hd ((ry.mono S3.tups).mono S5.tups) rz F5 N5).use fun v h6 tk6 news6 F6 N6 S6 e => ?_
            subst e
            exact k h6 tk6 news6 F6 N6 (S5.trans S6)
          · cases hd
        · rename_i e1
          cases hd
          refine (cmp_ok (s := { s with heap := h'', toks := tk' }) O e1 (rx.mono S''.tups) ry F'' N'').use fun v h3 tk3 news3 F3 N3 S3 e => ?_
          subst e
          exact kf vy h3 tk3 news3 rfl F3 N3 ((S'.trans S'').trans S3)
        · cases hd
      · cases hd
    · cases hd

theorem ex_cmp1 (O : V.Ok) (I : ExOk prog w K pp loose mean mg mb V B n S) {l r : Expr} {op : CmpOp} {q : Pos} {c : Bool} (hd : cmp1D S ρ l op r = some c)
    (C : Cx K pp loose mean mg mb B A h₀ cn ρ.sc L a ccd n) (F : Fr h₀ L s.heap m) (N : News h₀ L s.heap news) (Y : Loc V nb m news ρ.vars) :
    Gives (model prog w) A h₀ L m news s (eval (.Compare l [op] [r] q) (envOf cn ρ.sc L a ccd)) (fun news' v => R V news' v (.bool c)) := by
  intro Q h
  obtain ⟨k1, k2⟩ := cmp1_ok O I hd C F N Y
  exact wpAny_Compare1 (k2 Q fun h' tk news' F' N' S' => h _ h' tk news' F' N' S' (.bool c)) k1

theorem te_cmp1 (O : V.Ok) (I : ExOk prog w K pp loose mean mg mb V B n S) {l r : Expr} {op : CmpOp} {q : Pos} {c : Bool} {whole : Sem Value} (hd : cmp1D S ρ l op r = some c)
    (C : Cx K pp loose mean mg mb B A h₀ cn ρ.sc L a ccd n) (F : Fr h₀ L s.heap m) (N : News h₀ L s.heap news) (Y : Loc V nb m news ρ.vars) :
    Gives (model prog w) A h₀ L m news s (PySem.isTrue (.Compare l [op] [r] q) (envOf cn ρ.sc L a ccd) whole) (fun _ b => b = c) := by
  intro Q h
  obtain ⟨k1, k2⟩ := cmp1_ok O I hd C F N Y
  exact wpAny_isTrue_Compare1 (k2 _ fun h' tk news' F' N' S' => wpAny_truthy_bool (h _ h' tk news' F' N' S' rfl)) k1

theorem ex_chain (O : V.Ok) (I : ExOk prog w K pp loose mean mg mb V B n S) {l r₁ r₂ : Expr} {op₁ op₂ : CmpOp} {q : Pos} {c : Bool} (hd : chainD S ρ l op₁ op₂ r₁ r₂ = some c)
    (C : Cx K pp loose mean mg mb B A h₀ cn ρ.sc L a ccd n) (F : Fr h₀ L s.heap m) (N : News h₀ L s.heap news) (Y : Loc V nb m news ρ.vars) :
    Gives (model prog w) A h₀ L m news s (eval (.Compare l [op₁, op₂] [r₁, r₂] q) (envOf cn ρ.sc L a ccd)) (fun news' v => R V news' v (.bool c)) := by
  intro Q h
  obtain ⟨k1, k2⟩ := chain_ok O I hd C F N Y
  refine Compare_chain ?_ k1
  refine wpAny_mono (k2 (fun vb c' s₃ => wpAny (model prog w) A (truthy c')
      (fun t s₄ => if t then wpAny (model prog w) A (compareChain q vb [op₂] [eval r₂ (envOf cn ρ.sc L a ccd)]) Q Fa s₄ else Q c' s₄) Fa s₃) ?_ ?_) (fun x s₁ k => ?_) (fun _ _ x => x)
  · intro vb h' tk news' e F' N' S'
    refine wpAny_truthy_bool ?_
    rw [if_neg (by decide)]
    exact h _ h' tk news' F' N' S' (by subst e; exact .bool false)
  · intro vb h' tk news' F' N' S' k
    refine wpAny_truthy_bool ?_
    rw [if_pos rfl]
    exact chain_last (k Q fun h'' tk' news'' F'' N'' S'' => h _ h'' tk' news'' F'' N'' (S'.trans S'') (.bool c))
  · exact chain_link k

theorem te_chain (O : V.Ok) (I : ExOk prog w K pp loose mean mg mb V B n S) {l r₁ r₂ : Expr} {op₁ op₂ : CmpOp} {q : Pos} {c : Bool} {whole : Sem Value} (hd : chainD S ρ l op₁ op₂ r₁ r₂ = some c)
    (C : Cx K pp loose mean mg mb B A h₀ cn ρ.sc L a ccd n) (F : Fr h₀ L s.heap m) (N : News h₀ L s.heap news) (Y : Loc V nb m news ρ.vars) :
    Gives (model prog w) A h₀ L m news s (PySem.isTrue (.Compare l [op₁, op₂] [r₁, r₂] q) (envOf cn ρ.sc L a ccd) whole) (fun _ b => b = c) := by
  intro Q h
  obtain ⟨k1, k2⟩ := chain_ok O I hd C F N Y
  refine isTrue_chain ?_ k1
  refine wpAny_mono (k2 (fun vb c' s₃ => wpAny (model prog w) A (truthy c')
      (fun t s₄ => if t then wpAny (model prog w) A (testChain q vb [op₂] [eval r₂ (envOf cn ρ.sc L a ccd)]) Q Fa s₄ else Q false s₄) Fa s₃) ?_ ?_) (fun x s₁ k => ?_) (fun _ _ x => x)
  · intro vb h' tk news' e F' N' S'
    refine wpAny_truthy_bool ?_
    rw [if_neg (by decide)]
    exact h _ h' tk news' F' N' S' e.symm
  · intro vb h' tk news' F' N' S' k
    refine wpAny_truthy_bool ?_
    rw [if_pos rfl]
    exact test_last (k _ fun h'' tk' news'' F'' N'' S'' => wpAny_truthy_bool (h _ h'' tk' news'' F'' N'' (S'.trans S'') rfl))
  · exact test_link k

end


section
variable {prog : Program} {w : World} {K : Frag} {pp : Program} {loose : List Str} {mean : ExcName → Option Value} {mg mb : Str → Option Value} {V : Va} {cfg : Cfg} {B n : Nat} {S : Self}
variable {A : Around} {h₀ : Heap} {cn : Str} {cs : Scope} {L a : Addr} {ccd : Value} {s : Shared} {m : Str → Option Value} {nb news : List (Addr × Obj)} {ρ : Rho}

/-! ### places -/

theorem getD_eq : ∀ (l : List D) (i : Nat), getD? l i = l[i]?
  | [], _ => by simp [getD?]
  | d :: _, 0 => rfl
  | _ :: r, i + 1 => by rw [getD?, getD_eq r i]; simp
theorem getN_eq : ∀ (l : List Nat) (i : Nat), getN? l i = l[i]?
  | [], _ => by simp [getN?]
  | d :: _, 0 => rfl
  | _ :: r, i + 1 => by rw [getN?, getN_eq r i]; simp
theorem closed_get {l : List Nat} (h : closed l = true) : ∀ {i c : Nat}, l[i]? = some c → closed [c] = true := by
  induction l with
  | nil => intro i c e; simp at e
  | cons b r ih =>
    have h' := Bool.and_eq_true_iff.mp h
    intro i c e
    cases i with
    | zero => simp at e; subst e; show (Nat.blt b 2000000 && true) = true; rw [h'.1]; rfl
    | succ i => exact ih h'.2 (i := i) (by simpa using e)

theorem sub_plain {i : Expr} (h : isSlice i = false) (o x : Value) : subscripted i false o x = operate [o, x] (getItem o x) := by
  cases i <;> first | rfl | (simp [isSlice] at h)
theorem sub_slice {l u : Option Expr} {q : Pos} (o x : Value) : subscripted (.Slice l u none q) false o x = operate [x, o] (getItem o x) := rfl

theorem at_ok {x : Str} {px : Pos} {i : Expr} {d d' : D} {k : Int} {v : Value} {t : Tok} (hs : isSlice i = false) (hd : atD d k = some d') (r : R V news v d) (F : Fr h₀ L s.heap m) (N : News h₀ L s.heap news) :
    Gives (model prog w) A h₀ L m news s (subscriptTail (.Name x px) i v (.int k t)) (fun news' v => R V news' v d') := by
  intro Q h
  unfold atD at hd
  split at hd
  · rename_i j
    split at hd
    · rename_i ds
      split at hd
      · rename_i hn
        have hn' : j < 1000 := Nat.le_of_ble_eq_true hn
        rw [getD_eq] at hd
        cases r
        rename_i ad vs hm hr
        obtain ⟨v', hv, r'⟩ := hr.get hd
        have hlt : j < vs.length := by
          have := (List.getElem?_eq_some_iff.mp hv).1; exact this
        refine item_tupleL (News.isTup N hm) (by have := Int.natCast_nonneg j; exact Int.le_trans (by decide) this) (by show (j : Int) < 2 ^ 63; omega) ?_ hv (h v' s.heap s.toks news F N (.refl _) r') (sub_plain hs _ _) (fun _ => rfl)
        unfold seqIndex?
        have e1 : ¬ ((Int.ofNat j) < 0) := by show ¬ ((j : Int) < 0); omega
        have e2 : (decide (0 ≤ Int.ofNat j) && decide (Int.ofNat j < (vs.length : Int))) = true := by
          show (decide (0 ≤ (j : Int)) && decide ((j : Int) < (vs.length : Int))) = true
          simp; omega
        simp only [if_neg e1]
        rw [if_pos e2]; rfl
      · cases hd
    · rename_i l
      split at hd
      · rename_i hc
        have hc := Bool.and_eq_true_iff.mp hc
        have hsz := short_lt hc.2
        split at hd
        · rename_i c hg
          cases hd
          rw [getN_eq] at hg
          have hlt : j < l.length := (List.getElem?_eq_some_iff.mp hg).1
          cases r
          have elen : (V.den l).length = l.length := by rw [den_closed V hc.1]; simp [Str.length]
          have ech : Txt.item (V.den l) (Int.ofNat j) = V.den [c] := by
            rw [den_closed V hc.1, den_closed V (closed_get hc.1 hg)]
            unfold Txt.item Txt.charAt seqIndex?
            have e1 : ¬ ((Int.ofNat j) < 0) := by show ¬ ((j : Int) < 0); omega
            have e2 : (decide (0 ≤ Int.ofNat j) && decide (Int.ofNat j < ((⟨l.toArray⟩ : Str).length : Int))) = true := by
              show (decide (0 ≤ (j : Int)) && decide ((j : Int) < ((⟨l.toArray⟩ : Str).length : Int))) = true
              simp [Str.length]; omega
            simp only [if_neg e1]
            rw [if_pos e2]
            show (⟨#[((some j).bind fun x_1 => (⟨l.toArray⟩ : Str).cps[x_1]?).getD 0]⟩ : Str) = ⟨[c].toArray⟩
            simp [hg]
          refine item_str ?_ ?_ ?_ (fun _ => ?_) (sub_plain hs _ _) (fun _ => rfl)
          · show fitsSsize (j : Int) = true
            unfold fitsSsize
            simp; omega
          · show -((V.den l).length : Int) ≤ (j : Int); omega
          · show (j : Int) < ((V.den l).length : Int); omega
          · rw [ech]
            exact h _ s.heap _ news F N (.refl _) (.str _ _)
        · cases hd
      · cases hd
    · cases hd
  · cases hd

theorem init_eq : ∀ {l l' : List Nat}, initR l = some l' → ∃ c, l = l' ++ [c] ∧ closed [c] = true
  | [], _, h => by unfold initR at h; cases h
  | [c], l', h => by
    unfold initR at h
    split at h
    · rename_i hc
      cases h
      exact ⟨c, rfl, by show (Nat.blt c 2000000 && true) = true; rw [hc]; rfl⟩
    · cases h
  | c :: d :: r, l', h => by
    unfold initR at h
    split at h
    · rename_i l e
      cases h
      obtain ⟨c', e1, e2⟩ := init_eq e
      exact ⟨c', by rw [e1]; rfl, e2⟩
    · cases h

theorem slice_init {l l' : List Nat} (h : initR l = some l') : Txt.slice (V.den l) none (some (-1)) = V.den l' := by
  obtain ⟨c, rfl, hc⟩ := init_eq h
  have e : V.den (l' ++ [c]) = ⟨((l'.flatMap V.one) ++ [c]).toArray⟩ := by
    rw [den_append, den_closed V hc]
    apply Str.ext'
    rw [Str.cps_append]
    simp [Va.den]
  rw [e]
  have e2 : V.den l' = ⟨(l'.flatMap V.one).toArray⟩ := rfl
  rw [e2]
  generalize l'.flatMap V.one = z
  show StrLaws.sliceText _ none (some (-1)) = _
  have hl : (⟨(z ++ [c]).toArray⟩ : Str).length = z.length + 1 := by simp [Str.length]
  rw [StrLaws.sliceText_to_neg (by decide) (by rw [hl]; omega), hl]
  have e3 : (-1 + ((z.length + 1 : Nat) : Int) - 0).toNat = z.length := by omega
  rw [e3]
  simp

theorem ex_sub (O : V.Ok) (I : ExOk prog w K pp loose mean mg mb V B n S) {v i : Expr} {q : Pos} {d : D} (hd : subD S ρ v i = some d)
    (C : Cx K pp loose mean mg mb B A h₀ cn ρ.sc L a ccd n) (F : Fr h₀ L s.heap m) (N : News h₀ L s.heap news) (Y : Loc V nb m news ρ.vars) :
    Gives (model prog w) A h₀ L m news s (eval (.Subscript v i q) (envOf cn ρ.sc L a ccd)) (fun news' v => R V news' v d) := by
  intro Q h
  unfold subD at hd
  split at hd
  · rename_i x px
    split at hd
    · rename_i u qs
      split at hd
      · rename_i l h1
        split at hd
        · rename_i h2
          split at hd
          · rename_i hs
            split at hd
            · rename_i l' h3
              cases hd
              refine PyProof.Rows.Subscript_ ((I ρ _ _ h1 A h₀ cn L a ccd C s m nb news F N Y).use fun vo h' tk news' F' N' S' ro => ?_)
              refine wpAny_Slice (evalPart_none_step (wpAny_evalPart_some ((I ρ _ _ h2 A h₀ cn L a ccd C { s with heap := h', toks := tk } m nb news' F' N' (Y.mono S')).use fun vu h'' tk' news'' F'' N'' S'' ru => ?_)))
              refine evalPart_none_step ?_
              cases ro
              cases ru
              refine slice_strN_ns (s := { s with heap := h'', toks := tk' }) F'' N'' (fun g3 t3 k3 F3 N3 => ?_) (sub_slice _ _) (fun _ => rfl) (fits_sz O (by have := short_lt hs; omega))
              rw [show (Int.negSucc 0) = -1 from rfl, slice_init h3]
              exact h _ g3 k3 news'' F3 N3 (S'.trans S'') (.str _ _)
            · cases hd
          · cases hd
        · cases hd
      · cases hd
    · rename_i i' _
      split at hd
      · cases hd
      · rename_i hs
        split at hd
        · rename_i d0 h1
          split at hd
          · rename_i k h2
            refine PyProof.Rows.Subscript_ ((I ρ _ _ h1 A h₀ cn L a ccd C s m nb news F N Y).use fun vo h' tk news' F' N' S' ro => ?_)
            refine (I ρ _ _ h2 A h₀ cn L a ccd C { s with heap := h', toks := tk } m nb news' F' N' (Y.mono S')).use fun vi h'' tk' news'' F'' N'' S'' ri => ?_
            cases ri
            exact (at_ok (s := { s with heap := h'', toks := tk' }) hs hd (ro.mono S''.tups) F'' N'').use fun v h3 tk3 news3 F3 N3 S3 r3 => h v h3 tk3 news3 F3 N3 ((S'.trans S'').trans S3) r3
          · cases hd
        · cases hd
  · cases hd

/-! ### f-strings -/

theorem empty_den : Str.empty = V.den [] := rfl

theorem ex_part (O : V.Ok) (I : ExOk prog w K pp loose mean mg mb V B n S) {e : Expr} {l : List Nat} (hd : partD S ρ e = some l)
    (C : Cx K pp loose mean mg mb B A h₀ cn ρ.sc L a ccd n) (F : Fr h₀ L s.heap m) (N : News h₀ L s.heap news) (Y : Loc V nb m news ρ.vars) :
    Gives (model prog w) A h₀ L m news s (eval e (envOf cn ρ.sc L a ccd)) (fun _ v => ∃ t, v = .str (V.den l) t) := by
  intro Q h
  unfold partD at hd
  split at hd
  · rename_i x k q
    split at hd
    · rename_i hc
      cases hd
      have e : V.den x.cps.toList = x := by rw [den_closed V hc]
      exact Constant_str (h _ s.heap _ news F N (.refl _) ⟨_, by rw [e]⟩)
    · cases hd
  · rename_i v q
    split at hd
    · rename_i l' h1
      split at hd
      · rename_i hs
        cases hd
        refine FormattedValue_plain ((I ρ _ _ h1 A h₀ cn L a ccd C s m nb news F N Y).use fun vo h' tk news' F' N' S' ro => ?_)
        cases ro
        exact formatField_str (s := { s with heap := h', toks := tk }) (fun t' tk' => h _ h' tk' news' F' N' S' ⟨_, rfl⟩) (fits_sz O (by have := short_lt hs; omega))
      · cases hd
    · cases hd
  · cases hd

theorem ex_join (O : V.Ok) (I : ExOk prog w K pp loose mean mg mb V B n S) (C : Cx K pp loose mean mg mb B A h₀ cn ρ.sc L a ccd n) : ∀ {es : List Expr} {acc l : List Nat} {s : Shared} {news : List (Addr × Obj)}, joinD S ρ acc es = some l → short l = true →
    Fr h₀ L s.heap m → News h₀ L s.heap news → Loc V nb m news ρ.vars →
    Gives (model prog w) A h₀ L m news s (joinParts (V.den acc) (evalEach es (envOf cn ρ.sc L a ccd))) (fun news' v => R V news' v (.str l))
  | [], acc, l, s, news, hd, hl, F, N, _ => by
    intro Q h
    unfold joinD at hd
    cases hd
    exact joinParts_nil (h _ s.heap _ news F N (.refl _) (.str _ _)) (fits_sz O (by have := short_lt hl; omega))
  | e :: r, acc, l, s, news, hd, hl, F, N, Y => by
    intro Q h
    unfold joinD at hd
    split at hd
    · rename_i l1 h1
      split at hd
      · rename_i hs
        have hs := Bool.and_eq_true_iff.mp hs
        show wpAny _ A (joinParts (V.den acc) (eval e (envOf cn ρ.sc L a ccd) :: evalEach r (envOf cn ρ.sc L a ccd))) Q Fa s
        refine joinParts_cons ((ex_part O I h1 C F N Y).use fun v h' tk news' F' N' S' rv => ?_)
        obtain ⟨t, rfl⟩ := rv
        show (V.den acc ++ V.den l1).length ≤ sizeLine ∧ _
        rw [← den_append]
        refine ⟨fits_sz O (by have := short_lt hs.1; have := short_lt hs.2; rw [List.length_append]; omega), ?_⟩
        exact (ex_join O I C (s := { s with heap := h', toks := tk }) hd hl F' N' (Y.mono S')).use fun v h3 tk3 news3 F3 N3 S3 r3 => h v h3 tk3 news3 F3 N3 (S'.trans S3) r3
      · cases hd
    · cases hd

end


section
variable {prog : Program} {w : World} {K : Frag} {pp : Program} {loose : List Str} {mean : ExcName → Option Value} {mg mb : Str → Option Value} {V : Va} {cfg : Cfg} {B n : Nat} {S : Self}
variable {A : Around} {h₀ : Heap} {cn : Str} {cs : Scope} {L a : Addr} {ccd : Value} {s : Shared} {m : Str → Option Value} {nb news : List (Addr × Obj)} {ρ : Rho}

/-! ### not, minus, if-else, or, and -/

theorem ex_usub (I : ExOk prog w K pp loose mean mg mb V B n S) {x : Expr} {q : Pos} {i : Int} (hd : S.ex ρ x = some (.int i))
    (C : Cx K pp loose mean mg mb B A h₀ cn ρ.sc L a ccd n) (F : Fr h₀ L s.heap m) (N : News h₀ L s.heap news) (Y : Loc V nb m news ρ.vars) :
    Gives (model prog w) A h₀ L m news s (eval (.UnaryOp .USub x q) (envOf cn ρ.sc L a ccd)) (fun news' v => R V news' v (.int (-i))) := by
  intro Q h
  refine UnaryOp_ ((I ρ x _ hd A h₀ cn L a ccd C s m nb news F N Y).use fun v h' tk news' F' N' S' r => ?_)
  cases r
  exact PyProof.Rows.neg_int (s := { s with heap := h', toks := tk }) (h _ h' _ news' F' N' S' (.int _ _))

theorem ex_not (I : ExOk prog w K pp loose mean mg mb V B n S) {x : Expr} {q : Pos} {b : Bool} (hd : S.ex ρ x = some (.bool b))
    (C : Cx K pp loose mean mg mb B A h₀ cn ρ.sc L a ccd n) (F : Fr h₀ L s.heap m) (N : News h₀ L s.heap news) (Y : Loc V nb m news ρ.vars) :
    Gives (model prog w) A h₀ L m news s (eval (.UnaryOp .Not x q) (envOf cn ρ.sc L a ccd)) (fun news' v => R V news' v (.bool (!b))) := by
  intro Q h
  refine UnaryOp_ ((I ρ x _ hd A h₀ cn L a ccd C s m nb news F N Y).use fun v h' tk news' F' N' S' r => ?_)
  cases r
  exact not_of (wpAny_truthy_bool (h _ h' _ news' F' N' S' (.bool _)))

theorem ex_if (I : ExOk prog w K pp loose mean mg mb V B n S) (J : TeOk prog w K pp loose mean mg mb V B n S) {t b o : Expr} {q : Pos} {c : Bool} {d : D} (ht : S.te ρ t = some c) (hd : S.ex ρ (if c then b else o) = some d)
    (C : Cx K pp loose mean mg mb B A h₀ cn ρ.sc L a ccd n) (F : Fr h₀ L s.heap m) (N : News h₀ L s.heap news) (Y : Loc V nb m news ρ.vars) :
    Gives (model prog w) A h₀ L m news s (eval (.IfExp t b o q) (envOf cn ρ.sc L a ccd)) (fun news' v => R V news' v d) := by
  intro Q h
  refine IfExp_ ((J ρ t c ht A h₀ cn L a ccd C s m nb news F N Y _ (fun _ => rfl)).use fun c' h' tk news' F' N' S' e => ?_)
  subst e
  cases c'
  · exact (I ρ o d hd A h₀ cn L a ccd C { s with heap := h', toks := tk } m nb news' F' N' (Y.mono S')).use fun v h'' tk' news'' F'' N'' S'' r => h v h'' tk' news'' F'' N'' (S'.trans S'') r
  · exact (I ρ b d hd A h₀ cn L a ccd C { s with heap := h', toks := tk } m nb news' F' N' (Y.mono S')).use fun v h'' tk' news'' F'' N'' S'' r => h v h'' tk' news'' F'' N'' (S'.trans S'') r

theorem ex_or (I : ExOk prog w K pp loose mean mg mb V B n S) {x y : Expr} {rest : List Expr} {q : Pos} {c : Bool} {d : D} (hx : S.ex ρ x = some (.bool c)) (hd : if c then d = .bool true else S.ex ρ (.BoolOp .Or (y :: rest) q) = some d)
    (C : Cx K pp loose mean mg mb B A h₀ cn ρ.sc L a ccd n) (F : Fr h₀ L s.heap m) (N : News h₀ L s.heap news) (Y : Loc V nb m news ρ.vars) :
    Gives (model prog w) A h₀ L m news s (eval (.BoolOp .Or (x :: y :: rest) q) (envOf cn ρ.sc L a ccd)) (fun news' v => R V news' v d) := by
  intro Q h
  refine BoolOp_or ((I ρ x _ hx A h₀ cn L a ccd C s m nb news F N Y).use fun v h' tk news' F' N' S' r => ?_)
  cases r
  refine wpAny_truthy_bool ?_
  cases c
  · exact (I ρ _ d hd A h₀ cn L a ccd C { s with heap := h', toks := tk } m nb news' F' N' (Y.mono S')).use fun v h'' tk' news'' F'' N'' S'' r => h v h'' tk' news'' F'' N'' (S'.trans S'') r
  · have hd' : d = .bool true := hd
    subst hd'
    exact h _ h' tk news' F' N' S' (.bool true)

theorem ex_and (I : ExOk prog w K pp loose mean mg mb V B n S) {x y : Expr} {rest : List Expr} {q : Pos} {c : Bool} {d : D} (hx : S.ex ρ x = some (.bool c)) (hd : if c then S.ex ρ (.BoolOp .And (y :: rest) q) = some d else d = .bool false)
    (C : Cx K pp loose mean mg mb B A h₀ cn ρ.sc L a ccd n) (F : Fr h₀ L s.heap m) (N : News h₀ L s.heap news) (Y : Loc V nb m news ρ.vars) :
    Gives (model prog w) A h₀ L m news s (eval (.BoolOp .And (x :: y :: rest) q) (envOf cn ρ.sc L a ccd)) (fun news' v => R V news' v d) := by
  intro Q h
  refine BoolOp_and ((I ρ x _ hx A h₀ cn L a ccd C s m nb news F N Y).use fun v h' tk news' F' N' S' r => ?_)
  cases r
  refine wpAny_truthy_bool ?_
  cases c
  · have hd' : d = .bool false := hd
    subst hd'
    exact h _ h' tk news' F' N' S' (.bool false)
  · exact (I ρ _ d hd A h₀ cn L a ccd C { s with heap := h', toks := tk } m nb news' F' N' (Y.mono S')).use fun v h'' tk' news'' F'' N'' S'' r => h v h'' tk' news'' F'' N'' (S'.trans S'') r

/-! ### calls of the text's defs, str() -/

theorem mapEx_len {f : Expr → Option D} : ∀ {es : List Expr} {ds : List D}, mapEx f es = some ds → ds.length = es.length
  | [], ds, h => by unfold mapEx at h; cases h; rfl
  | e :: r, ds, h => by obtain ⟨_, d, ds', _, h3, rfl⟩ := mapEx_cons h; simp [mapEx_len h3]

theorem den_wt (O : V.Ok) : V.den [WT] = Str.ofString (toString V.wid) := by
  have e : V.den [WT] = ⟨V.wt.toArray⟩ := by
    unfold Va.den
    have : V.one WT = V.wt := by unfold Va.one; rw [if_neg (by decide), if_neg (by decide), if_pos rfl]
    simp [this]
  rw [e, O.txt]

theorem ex_call (O : V.Ok) (G : CfgOk K cfg) (I : ExOk prog w K pp loose mean mg mb V B n S) (J : CaOk prog w K pp loose mean mg mb V B n S) {f : Str} {pf q : Pos} {args : List Expr} {d : D} (hd : callD S ρ f args = some d)
    (C : Cx K pp loose mean mg mb B A h₀ cn ρ.sc L a ccd n) (F : Fr h₀ L s.heap m) (N : News h₀ L s.heap news) (Y : Loc V nb m news ρ.vars) :
    Gives (model prog w) A h₀ L m news s (eval (.Call (.Name f pf) args [] q) (envOf cn ρ.sc L a ccd)) (fun news' v => R V news' v d) := by
  intro Q h
  unfold callD at hd
  split at hd
  · rename_i hg
    obtain ⟨k1, k2⟩ := isGlo_of hg
    split at hd
    · rename_i ds hm
      refine Call_ ?_
      split at hd
      · rename_i hs
        have hs := sEq_iff.mp hs
        subst hs
        have one : ∀ {d₀ : D}, ds = [d₀] → (∀ v h' tk news', Fr h₀ L h' m → News h₀ L h' news' → Sub news news' → R V news' v d₀ → wpAny (model prog w) A (call (.type "str") [v]) Q Fa { s with heap := h', toks := tk }) →
            wpAny (model prog w) A (eval (.Name (Str.ofString "str") pf) (envOf cn ρ.sc L a ccd)) (fun f s₁ => wpAny (model prog w) A (callWith q f [] (backTo q (starEach args (envOf cn ρ.sc L a ccd))) []) Q Fa s₁) Fa s := by
          rintro d₀ rfl k
          refine name_B F C.kin (topRead_of C.top) G.str rfl (by decide) ?_ C.kind k1 k2
          cases args with
          | nil => have := mapEx_len hm; cases this
          | cons e r =>
            obtain ⟨h1, _, _, _, h3, _⟩ := mapEx_cons hm
            refine PyProof.Rows.callWith_type1 ((ex_args I C hm F N Y).use fun vs h' tk news' F' N' S' r' => ?_) (star_cons h1 r _) (plain_args h3)
            cases r' with
            | cons r1 r2 => cases r2; exact k _ h' tk news' F' N' S' r1
        split at hd
        · cases hd
          refine one rfl fun v h' tk news' F' N' S' r => ?_
          cases r
          refine P.str_of_int (s := { s with heap := h', toks := tk }) ?_ ?_
          · have h1 := O.lo
            have h2 := O.hi
            have : V.wid.natAbs < 64 := by omega
            have h3 : V.wid.natAbs.log2 ≤ V.wid.natAbs := by
              rcases Nat.eq_zero_or_pos V.wid.natAbs with e | e
              · rw [e]; decide
              · exact Nat.le_of_lt ((Nat.log2_lt (Nat.pos_iff_ne_zero.mp e)).mpr Nat.lt_two_pow_self)
            omega
          · rw [← den_wt O]
            exact h _ h' _ news' F' N' S' (.str _ _)
        · cases hd
          refine one rfl fun v h' tk news' F' N' S' r => ?_
          cases r
          refine P.str_of_int (s := { s with heap := h', toks := tk }) (by decide) ?_
          have e : V.den [48] = Str.ofString (toString (0 : Int)) := by rw [den_closed V (by decide)]; decide +kernel
          rw [← e]
          exact h _ h' _ news' F' N' S' (.str _ _)
        · cases hd
      · obtain ⟨fa, g1, g2, g3⟩ := J f ds d hd
        refine name_K F C.kin (topRead_of C.top) g1 ?_ C.kind k1 k2
        cases args with
        | nil =>
          have e : ds = [] := List.eq_nil_of_length_eq_zero (mapEx_len hm)
          subst e
          refine callWith_K0 (C.kin.keeps F.keep) g2 ?_
          exact (g3 A h₀ cn ρ.sc L a ccd C s m news [] F N .nil).use fun v h' tk news' F' N' S' r => h v h' tk news' F' N' S' r
        | cons e r =>
          obtain ⟨h1, _, _, _, h3, _⟩ := mapEx_cons hm
          refine callWith_K C.kin g2 ((ex_args I C hm F N Y).use fun vs h' tk news' F' N' S' r' => ⟨C.kin.keeps F'.keep, ?_⟩) (star_cons h1 r _) (plain_args h3)
          exact (g3 A h₀ cn ρ.sc L a ccd C { s with heap := h', toks := tk } m news' vs F' N' r').use fun v h'' tk' news'' F'' N'' S'' r => h v h'' tk' news'' F'' N'' (S'.trans S'') r
    · cases hd
  · cases hd

/-! ### join -/

theorem glued_den (sep : List Nat) : ∀ (ls : List (List Nat)) (x : List Nat), (ls.map V.den).foldl (fun acc p => acc ++ (V.den sep).cps ++ p.cps) (V.den x).cps = (V.den (joinR sep (x :: ls))).cps
  | [], x => rfl
  | y :: r, x => by
    rw [List.map_cons, List.foldl_cons, ← Str.cps_append, ← Str.cps_append, ← den_append, ← den_append, glued_den sep r]
    congr 2
    cases r with
    | nil => simp [joinR]
    | cons z r => simp [joinR]
theorem join_den (sep : List Nat) (ls : List (List Nat)) : Txt.join (V.den sep) (ls.map V.den) = V.den (joinR sep ls) := by
  cases ls with
  | nil => rfl
  | cons x r =>
    apply Str.ext'
    show ((((x :: r).map V.den).drop 1).foldl (fun acc p => acc ++ (V.den sep).cps ++ p.cps) (((x :: r).map V.den).headD Str.empty).cps) = _
    rw [List.map_cons, List.drop_succ_cons, List.drop_zero, List.headD_cons]
    exact glued_den sep r x

theorem strs_of : ∀ {vs : List Value} {ds : List D} {ls : List (List Nat)}, RL V news vs ds → strsD ds = some ls → StrsAre vs (ls.map V.den) ∧ (∀ l ∈ ls, l.length < 100000) ∧ ls.length = ds.length
  | _, [], ls, .nil, h => by unfold strsD at h; cases h; exact ⟨.nil, (fun _ h => nomatch h), rfl⟩
  | _, d :: r, ls, .cons r1 r2, h => by
    cases d with
    | str l =>
      unfold strsD at h
      split at h
      · rename_i hs
        split at h
        · rename_i ls' h2
          cases h
          cases r1
          obtain ⟨k1, k2, k3⟩ := strs_of r2 h2
          refine ⟨.cons _ _ k1, ?_, by simp [k3]⟩
          intro x hx
          rcases List.mem_cons.mp hx with rfl | hx
          · exact short_lt hs
          · exact k2 x hx
        · cases h
      · cases h
    | _ => unfold strsD at h; cases h

theorem sum_len (O : V.Ok) : ∀ {ls : List (List Nat)}, (∀ l ∈ ls, l.length < 100000) → ((ls.map V.den).map fun x => x.length).sum ≤ ls.length * 800000
  | [], _ => by simp
  | l :: r, h => by
    have h1 := den_len V O l
    have h2 := h l List.mem_cons_self
    have h3 := sum_len O (ls := r) fun x hx => h x (List.mem_cons_of_mem _ hx)
    simp only [List.map_cons, List.sum_cons, List.length_cons]
    omega

theorem call_join (O : V.Ok) {sep : List Nat} {t : Tok} {ad : Addr} {vs : List Value} {k : Nat} {ls : List (List Nat)} (h8 : sep.length < 8) (hl : ls.length < 20) (hm : (ad, lstO vs k) ∈ news) (hs : StrsAre vs (ls.map V.den)) (hb : ∀ l ∈ ls, l.length < 100000)
    (F : Fr h₀ L s.heap m) (N : News h₀ L s.heap news) :
    Gives (model prog w) A h₀ L m news s (call (.builtin "str.join") [.str (V.den sep) t, .ref ad]) (fun news' v => R V news' v (.str (joinR sep ls))) := by
  intro Q h
  refine join_listC (items := vs.toArray) (ys := ls.map V.den) ⟨_, N.get hm, rfl, k, rfl⟩ (by simpa using hs) ?_ ?_ (fun t' k' => ?_)
  · have := den_len V O sep; omega
  · have h1 := sum_len O hb
    have e : (ls.map V.den).length = ls.length := List.length_map ..
    rw [e]
    omega
  · rw [join_den]
    exact h _ s.heap k' news F N (.refl _) (.str _ _)

end


section
variable {prog : Program} {w : World} {K : Frag} {pp : Program} {loose : List Str} {mean : ExcName → Option Value} {mg mb : Str → Option Value} {V : Va} {cfg : Cfg} {B n : Nat} {S : Self}
variable {A : Around} {h₀ : Heap} {cn : Str} {cs : Scope} {L a : Addr} {ccd : Value} {s : Shared} {m : Str → Option Value} {nb news : List (Addr × Obj)} {ρ : Rho}

/-! ### a comprehension over a tuple -/

noncomputable def methPl (o : Expr) (env : Env) : Sem Bool := do return (← importBound o env).getD true
theorem meth_eq {o e : Expr} {name : Str} {ap q : Pos} {env : Env} (ho : attributeBase o name env (eval o env) = eval o env) (hs : isStar e = false) (hp : Nat.beq ap.endLine q.line = true) :
    eval (.Call (.Attribute o name ap) [e] [] q) env = (do
      let ov ← eval o env
      standAt ap.atName
      let (f, first) ← holding [ov] (getMethod ov name (methPl o env))
      callWith q f first (backTo q (starEach [e] env)) []) := by
  rw [arm_eval_Call, ho]
  have few : methodCallForm ([e].length + ([] : List Keyword).length) (backTo q (starEach [e] env)) (backToKw q (keywordEach [] env)) = true := by
    rw [star_cons hs]; rfl
  have hp' : (ap.endLine == q.line) = true := by rw [Nat.eq_of_beq_eq_true hp]; exact beq_self_eq_true _
  have hpos : methodCallPos true o env ap q = pure q := by
    unfold methodCallPos
    simp [hp']
  unfold methodCall
  rw [few, hpos]
  rfl

/-- the source of a comprehension is a tuple of the ledger -/
theorem comp_tuple {E : Value → Shared → Prop} {env : Env} {elt iter : Expr} {x : Str} {px : Pos} {scope : Scope} {cl : List (Str × Addr)} {pos : Pos} {Q : Value → Shared → Prop}
    (hh : A.handled = none) (hclos : closureFor scope env = pure cl) (hcell : ∀ y ∈ scope.names, y.2 ≠ .cell) (hkind : scope.kind = .function)
    (hnames : ∀ y ∈ scope.names, y.2 = .local → scope.names.lookup y.1 = some .local) (hx : scope.names.lookup x = some .local) (hs : ∀ x, foldedSetIterable iter env x = pure x)
    (h : wpAny (model prog w) A (eval iter env) (fun xv s₁ => ∃ ax its news, xv = .ref ax ∧ Fr h₀ L s₁.heap m ∧ News h₀ L s₁.heap news ∧ (ax, tupO its) ∈ news ∧ its.length ≤ sizeLine ∧
      ∀ g, LCg.CompRest prog w A h₀ L m env elt x scope cl { s₁ with heap := g } (Sub news) (fun i v => its.toArray[i]? = some v) (LCg.FinE h₀ L m { s₁ with heap := g } Q) its.toArray.size 0 [] news) E s) :
    wpAny (model prog w) A (eval (.ListComp elt [⟨.Name x px, iter, [], 0⟩] scope pos) env) Q E s := by
  rw [eval_ListComp]
  refine wpAny_comprehension_free (use := none) rfl hs hclos hkind hnames (wpAny_mono h (fun xv s₁ h₁ => ?_) fun _ _ e => e)
  obtain ⟨ax, its, news, rfl, F, N, hm, hsz, RR⟩ := h₁
  have hl : s₁.heap.IsTuple ax its.toArray := ⟨_, N.get hm, rfl, 0, rfl⟩
  have hlt : ax < s₁.heap.objs.size := Heap.lt_size (N.get hm)
  refine wpAny_pyIter_tuple hl ?_
  have up : ∀ b o, s₁.heap.get? b = some o → (s₁.heap.push { cls := .type "tuple_iterator", data := .fields #[.ref ax, .int 0 0] }).get? b = some o := fun b o e => Heap.get?_push_of_some _ e
  refine LCg.block_U (Walks.tuple hh s₁.heap.objs.size ax (Nat.ne_of_lt hlt) its.toArray) (by simpa using hsz) (fun i h st => by obtain ⟨o, e, _⟩ := st.1; exact ⟨o, e⟩) (S := Sub news) ?_ hcell hkind hx
    ⟨⟨_, Heap.get?_push_size _ rfl, rfl, rfl⟩, ⟨_, up _ _ (N.get hm), rfl, 0, rfl⟩⟩ (fun b hb => ?_) (F.keeps up) (N.grown up) (Nat.ne_of_lt F.ns.lt) (next_is_new F) (fun p hp => Nat.ne_of_lt (Heap.lt_size (N p hp).1)) (Sub.refl _) (RR _) ?_
  · intro i h h' o nw st e e' k N' S
    refine ⟨?_, ⟨_, N'.get (S _ hm), rfl, 0, rfl⟩⟩
    obtain ⟨o', q, r⟩ := st.1
    rw [e] at q; cases q
    exact ⟨o, e', r⟩
  · show b < (s₁.heap.push _).objs.size
    rw [Heap.size_push]
    rcases List.mem_cons.mp hb with rfl | hb
    · exact Nat.lt_succ_self _
    · rw [List.mem_singleton.mp hb]; exact Nat.lt_succ_of_lt hlt
  · intro D C h tk m' ys news' F' N' o1 hn hC₀ hD₀ hCL hDL hCD offC fin
    refine ⟨m', hn, fun h'' hs'' => fin D h'' tk (F'.change hs'' hCL hC₀) (fun p hp => ?_) o1⟩
    refine ⟨hs''.extBut _ _ ?_ (N' p hp).1, (N' p hp).2⟩
    rcases List.mem_cons.mp hp with rfl | hp
    · exact Ne.symm hCD
    · exact offC p hp

theorem relabel_id {sc : Scope} {env : Env} (h : ∀ p ∈ sc.names, p.2 ≠ .free) : (relabel sc env).names = sc.names := by
  unfold relabel
  show List.map _ sc.names = sc.names
  refine (List.map_congr_left fun p hp => ?_).trans (List.map_id _)
  obtain ⟨y, k⟩ := p
  have hk : (k == NameKind.free) = false := beq_eq_false_iff_ne.mpr (h _ hp)
  simp only [hk, Bool.false_and, Bool.false_eq_true, if_false, id]

theorem clos_nil {sc : Scope} {env : Env} (h : ∀ p ∈ sc.names, p.2 ≠ .free) : closureFor sc env = pure [] := by
  unfold closureFor
  dsimp only
  rw [forIn_yield_id [] (fun p hp c => by
    obtain ⟨y, k⟩ := p
    have hk : (k == NameKind.free) = false := beq_eq_false_iff_ne.mpr (h _ hp)
    simp only [hk, Bool.false_eq_true, if_false]
    try rfl)]
  rfl

theorem compOk_of {f x y : Str} {iter : Expr} {sc : Scope} (h : compOk f x y iter sc = true) : x = y ∧ isLoc sc y = true ∧ isGlo sc f = true ∧ isSet iter = false ∧ sc.kind = .function ∧
    (∀ p ∈ sc.names, p.2 ≠ .free) ∧ (∀ p ∈ sc.names, p.2 ≠ .cell) ∧ (∀ p ∈ sc.names, p.2 = .local → sc.names.lookup p.1 = some .local) := by
  unfold compOk at h
  obtain ⟨h, h6⟩ := Bool.and_eq_true_iff.mp h
  obtain ⟨h, h5⟩ := Bool.and_eq_true_iff.mp h
  obtain ⟨h, h4⟩ := Bool.and_eq_true_iff.mp h
  obtain ⟨h, h3⟩ := Bool.and_eq_true_iff.mp h
  obtain ⟨h1, h2⟩ := Bool.and_eq_true_iff.mp h
  have all := List.all_eq_true.mp h6
  refine ⟨sEq_iff.mp h1, h2, h3, by simpa using h4, ?_, fun p hp e => ?_, fun p hp e => ?_, fun p hp e => ?_⟩
  · split at h5
    · assumption
    · cases h5
  · have z := all p hp; rw [e] at z; cases z
  · have z := all p hp; rw [e] at z; cases z
  · have z := all p hp
    rw [e] at z
    rw [kindL_eq]
    dsimp only at z
    split at z
    · assumption
    · cases z

theorem folded_plain {iter : Expr} {env : Env} (h : isSet iter = false) : ∀ x, foldedSetIterable iter env x = pure x := by
  intro x
  cases iter <;> first | rfl | (simp [isSet] at h)

theorem strs_snoc {vs : List Value} {ys : List Str} (h : StrsAre vs ys) (y : Str) (t : Tok) : StrsAre (vs ++ [.str y t]) (ys ++ [y]) := by
  induction h with
  | nil => exact .cons _ _ .nil
  | cons z u _ ih => exact .cons _ _ ih

theorem RL.drop {vs : List Value} {ds : List D} (h : RL V news vs ds) : ∀ i, RL V news (vs.drop i) (ds.drop i) := by
  intro i
  induction i generalizing vs ds with
  | zero => exact h
  | succ i ih => cases h with
    | nil => exact .nil
    | cons _ t => exact ih t
theorem str_free {vs : List Value} {ds : List D} : ∀ {ls : List (List Nat)}, strsD ds = some ls → RL V news vs ds → RL V nb vs ds := by
  induction ds generalizing vs with
  | nil => intro ls _ r; cases r; exact .nil
  | cons d r ih =>
    intro ls h rr
    cases d with
    | str l =>
      unfold strsD at h
      split at h
      · split at h
        · rename_i ls' h2
          cases rr with
          | cons r1 r2 => cases r1; exact .cons (.str _ _) (ih h2 r2)
        · cases h
      · cases h
    | _ => unfold strsD at h; cases h

noncomputable def offB (I C Dd : Addr) (p : Addr × Obj) : Bool := !(Nat.beq p.1 I) && !(Nat.beq p.1 C) && !(Nat.beq p.1 Dd)
theorem offB_iff {I C Dd : Addr} {p : Addr × Obj} : offB I C Dd p = true ↔ p.1 ≠ I ∧ p.1 ≠ C ∧ p.1 ≠ Dd := by
  unfold offB
  have e : ∀ a b : Nat, (!(Nat.beq a b)) = true ↔ a ≠ b := by
    intro a b
    cases q : Nat.beq a b with
    | true => exact ⟨fun h => (by cases h), fun h => absurd (Nat.eq_of_beq_eq_true q) h⟩
    | false => exact ⟨fun _ => Nat.ne_of_beq_eq_false q, fun _ => rfl⟩
  rw [Bool.and_eq_true_iff, Bool.and_eq_true_iff, e, e, e]
  exact ⟨fun h => ⟨h.1.1, h.1.2, h.2⟩, fun h => ⟨⟨h.1, h.2.1⟩, h.2.2⟩⟩

theorem comp_loop (J : CaOk prog w K pp loose mean mg mb V B n S) {f x : Str} {pf px q : Pos} {sc : Scope} {vs : List Value} {news0 : List (Addr × Obj)} {FinP : List Value → List (Addr × Obj) → Prop}
    (C : Cx K pp loose mean mg mb B A h₀ cn ρ.sc L a ccd n) (hk : sc.kind = .function) (hfree : ∀ p ∈ sc.names, p.2 ≠ .free) (hx : isLoc sc x = true) (hf : isGlo sc f = true) :
    ∀ (ds : List D) (ls : List (List Nat)) (i : Nat) (ys : List Value) (done : List (List Nat)) (news1 : List (Addr × Obj)), RL V [] (vs.drop i) ds → callsD S f ds = some ls → StrsAre ys (done.map V.den) → Sub news0 news1 →
      (∀ ys news, StrsAre ys ((done ++ ls).map V.den) → Sub news0 news → FinP ys news) →
      LCg.CompRest prog w A h₀ L m (envOf cn ρ.sc L a ccd) (.Call (.Name f pf) [.Name x px] [] q) x sc [] s (Sub news0) (fun i v => vs.toArray[i]? = some v) FinP ds.length i ys news1
  | [], ls, i, ys, done, news1, hr, hd, hy, hs, fin => by
    unfold callsD at hd
    cases hd
    exact LCg.CompRest.zero (fin ys news1 (by simpa using hy) hs)
  | d :: r, ls, i, ys, done, news1, hr, hd, hy, hs, fin => by
    unfold callsD at hd
    split at hd
    · rename_i l h1
      split at hd
      · rename_i hsh
        split at hd
        · rename_i ls' h2
          cases hd
          refine LCg.CompRest.succ fun v I oI Cc oC Dd m₂ h tk E' hP hO hm F N off ne => ?_
          obtain ⟨fa, g1, g2, g3⟩ := J f [d] _ h1
          obtain ⟨kx1, kx2⟩ := isLoc_of hx
          obtain ⟨kf1, kf2⟩ := isGlo_of hf
          have hv : vs[i]? = some v := by simpa using hP
          have hlt : i < vs.length := (List.getElem?_eq_some_iff.mp hv).1
          have hdr : vs.drop i = v :: vs.drop (i + 1) := by
            rw [List.drop_eq_getElem_cons hlt]
            congr 1
            exact (List.getElem?_eq_some_iff.mp hv).2
          rw [hdr] at hr
          cases hr with
          | cons rv rr =>
            have eN : (compEnvC sc [] Cc (envOf cn ρ.sc L a ccd)).scope.names = sc.names := relabel_id hfree
            have eK : ∀ z, (compEnvC sc [] Cc (envOf cn ρ.sc L a ccd)).kindOf z = sc.names.lookup z := fun z => by
              show (compEnvC sc [] Cc (envOf cn ρ.sc L a ccd)).scope.names.lookup z = _
              rw [eN]
            refine Call_ ?_
            refine Name_function_global hk (by rw [eK]; exact kf1) (loadGlobal_global (env := compEnvC sc [] Cc (envOf cn ρ.sc L a ccd)) (C.top.g.keeps F.keep) (mg_of C.kin C.top.g g1) ?_) kf2
            refine callWith_K (h₀ := h₀) C.kin g2 ?_ rfl rfl
            show wpAny _ A (spliced ((false, eval (.Name x px) (compEnvC sc [] Cc (envOf cn ρ.sc L a ccd))) :: [])) _ _ _
            refine spliced_cons (wpAny_Name (wpAny_loadName_local hk (by rw [eK]; exact kx1) (hO.ns (N (Cc, oC) (List.mem_cons_of_mem _ List.mem_cons_self)).1) hm ?_) kx2)
            refine spliced_nil ⟨C.kin.keeps F.keep, ?_⟩
            refine (g3 A h₀ cn ρ.sc L a ccd C { s with heap := h, toks := tk } m _ [v] F N (.cons (rv.mono (fun _ _ h => absurd h List.not_mem_nil)) .nil)).use fun v' h' tk' news2 F' N' S' r' => ?_
            cases r' with
            | str l' t' =>
              refine ⟨h', tk', news2.filter (offB I Cc Dd), rfl, F', fun p hp => ?_, LCg.Off3.of fun p hp => offB_iff.mp (List.mem_filter.mp hp).2, fun p hp => ?_, ?_⟩
              · rcases List.mem_cons.mp hp with rfl | hp
                · exact N' _ (S' _ List.mem_cons_self)
                · rcases List.mem_cons.mp hp with rfl | hp
                  · exact N' _ (S' _ (List.mem_cons_of_mem _ List.mem_cons_self))
                  · rcases List.mem_cons.mp hp with rfl | hp
                    · exact N' _ (S' _ (List.mem_cons_of_mem _ (List.mem_cons_of_mem _ List.mem_cons_self)))
                    · exact N' _ (List.mem_filter.mp hp).1
              · refine List.mem_filter.mpr ⟨S' _ (List.mem_cons_of_mem _ (List.mem_cons_of_mem _ (List.mem_cons_of_mem _ (hs p hp)))), offB_iff.mpr (off.mem p (hs p hp))⟩
              · refine comp_loop J C hk hfree hx hf r ls' (i + 1) _ (done ++ [l]) _ rr h2 ?_ ?_ ?_
                · rw [List.map_append]
                  exact strs_snoc hy _ _
                · exact fun p hp => List.mem_filter.mpr ⟨S' _ (List.mem_cons_of_mem _ (List.mem_cons_of_mem _ (List.mem_cons_of_mem _ (hs p hp)))), offB_iff.mpr (off.mem p (hs p hp))⟩
                · intro ys news hy' hs'
                  refine fin ys news ?_ hs'
                  rw [List.append_assoc] at hy'
                  exact hy'
        · cases hd
      · cases hd
    · cases hd

theorem calls_short {f : Str} : ∀ {ds : List D} {ls : List (List Nat)}, callsD S f ds = some ls → (∀ l ∈ ls, l.length < 100000)
  | [], ls, h => by unfold callsD at h; cases h; exact fun _ h => nomatch h
  | d :: r, ls, h => by
    unfold callsD at h
    split at h
    · split at h
      · rename_i hs
        split at h
        · rename_i ls' h2
          cases h
          intro x hx
          rcases List.mem_cons.mp hx with rfl | hx
          · exact short_lt hs
          · exact calls_short h2 x hx
        · cases h
      · cases h
    · cases h

theorem ex_comp (I : ExOk prog w K pp loose mean mg mb V B n S) (J : CaOk prog w K pp loose mean mg mb V B n S) {e : Expr} {ls : List (List Nat)} (hd : compD S ρ e = some ls)
    (C : Cx K pp loose mean mg mb B A h₀ cn ρ.sc L a ccd n) (F : Fr h₀ L s.heap m) (N : News h₀ L s.heap news) (Y : Loc V nb m news ρ.vars) :
    (∀ l ∈ ls, l.length < 100000) ∧ Gives (model prog w) A h₀ L m news s (eval e (envOf cn ρ.sc L a ccd)) (fun news' v => ∃ ad ys k, v = .ref ad ∧ (ad, lstO ys k) ∈ news' ∧ StrsAre ys (ls.map V.den)) := by
  unfold compD at hd
  split at hd
  · rename_i f pf x px q y py iter sc ps
    split at hd
    · rename_i hok
      obtain ⟨e1, e2, e3, e4, e5, e6, e7, e8⟩ := compOk_of hok
      subst e1
      split at hd
      · rename_i ds h1
        split at hd
        · rename_i ls0 h2
          split at hd
          · rename_i hlen
            refine ⟨calls_short hd, fun Q h => ?_⟩
            have k := isLoc_of e2
            refine comp_tuple (h₀ := h₀) (L := L) (m := m) C.hh (clos_nil e6) e7 e5 e8 k.1 (folded_plain e4) ?_
            refine (I ρ iter _ h1 A h₀ cn L a ccd C s m nb news F N Y).use fun v h' tk news' F' N' S' r' => ?_
            cases r' with
            | tup hm hr =>
              rename_i ad vs
              have hvl := hr.length
              have hll := (strs_of hr h2).2.2
              have hl20 : ls0.length < 20 := Nat.le_of_ble_eq_true hlen
              refine ⟨ad, vs, news', rfl, F', N', hm, by rw [sizeLine_eq]; omega, fun g => ?_⟩
              have hz : vs.toArray.size = ds.length := by rw [List.size_toArray, hvl]
              rw [hz]
              refine comp_loop J C e5 e6 e2 e3 ds ls 0 [] [] news' (str_free h2 hr) hd .nil (Sub.refl _) fun ys news2 hy hs => ?_
              intro Dd h2' tk2 F2 N2 _
              exact h _ h2' tk2 _ F2 N2 ((S'.trans hs).trans (Sub.cons _)) ⟨Dd, ys, ys.length, rfl, List.mem_cons_self, hy⟩
          · cases hd
        · cases hd
      · cases hd
    · cases hd
  · cases hd

theorem loc_lst {x : Str} {ds : List D} (hl : isLoc ρ.sc x = true) (hv : vget ρ.vars x = some (.lst ds)) (px : Pos)
    (C : Cx K pp loose mean mg mb B A h₀ cn ρ.sc L a ccd n) (F : Fr h₀ L s.heap m) (Y : Loc V nb m news ρ.vars) :
    ∃ ad vs k, (ad, lstO vs k) ∈ news ∧ RL V news vs ds ∧ (∀ p ∈ nb, p.1 ≠ ad) ∧ m x = some (.ref ad) ∧
      ∀ {Q : Value → Shared → Prop}, Q (.ref ad) s → wpAny (model prog w) A (eval (.Name x px) (envOf cn ρ.sc L a ccd)) Q Fa s := by
  obtain ⟨v, hv', ad, vs, k, rfl, h1, h2, h3⟩ := Y x _ hv
  obtain ⟨k1, k2⟩ := isLoc_of hl
  exact ⟨ad, vs, k, h1, h2, h3, hv', fun h => ld F hv' h C.kind k1 k2⟩

theorem ex_meth (O : V.Ok) (I : ExOk prog w K pp loose mean mg mb V B n S) (J : CaOk prog w K pp loose mean mg mb V B n S) {o : Expr} {name : Str} {ap q : Pos} {args : List Expr} {d : D} (hd : methD S ρ o name ap q args = some d)
    (C : Cx K pp loose mean mg mb B A h₀ cn ρ.sc L a ccd n) (F : Fr h₀ L s.heap m) (N : News h₀ L s.heap news) (Y : Loc V nb m news ρ.vars) :
    Gives (model prog w) A h₀ L m news s (eval (.Call (.Attribute o name ap) args [] q) (envOf cn ρ.sc L a ccd)) (fun news' v => R V news' v d) := by
  intro Q h
  unfold methD at hd
  split at hd
  · rename_i sep ks qs
    split at hd
    · rename_i hok
      obtain ⟨hok, h8⟩ := Bool.and_eq_true_iff.mp hok
      obtain ⟨hok, hc⟩ := Bool.and_eq_true_iff.mp hok
      obtain ⟨hp, h1⟩ := Bool.and_eq_true_iff.mp hok
      have h1 := sEq_iff.mp h1
      subst h1
      have h8 : sep.cps.toList.length < 8 := Nat.le_of_ble_eq_true h8
      have esep : sep = V.den sep.cps.toList := by rw [den_closed V hc]
      have go : ∀ {e : Expr} {ls : List (List Nat)}, isStar e = false → args = [e] → ls.length < 20 → d = .str (joinR sep.cps.toList ls) → (∀ l ∈ ls, l.length < 100000) →
          (∀ (s₁ : Shared), (∃ tk, s₁ = { s with toks := tk }) → Gives (model prog w) A h₀ L m news s₁ (eval e (envOf cn ρ.sc L a ccd)) (fun news' v => ∃ ad ys k, v = .ref ad ∧ (ad, lstO ys k) ∈ news' ∧ StrsAre ys (ls.map V.den))) →
          wpAny (model prog w) A (eval (.Call (.Attribute (.Constant (.str sep) ks qs) (Str.ofString "join") ap) args [] q) (envOf cn ρ.sc L a ccd)) Q Fa s := by
        rintro e ls hst rfl hl rfl hb g
        refine MethodCall_ (pl := methPl _ _) (Constant_str (GM.join ?_)) (meth_eq rfl hst hp)
        refine callWith_builtin (by rw [star_cons hst]; rfl) ?_
        rw [star_cons hst]
        show wpAny _ A (evalArgs (.builtin "str.join") true ((false, eval e (envOf cn ρ.sc L a ccd)) :: []) []) _ _ _
        refine evalArgs_plain (spliced_cons ((g _ ⟨_, rfl⟩).use fun v h' tk news' F' N' S' hv => spliced_nil ?_))
        obtain ⟨ad, ys, k, rfl, hm, hy⟩ := hv
        show wpAny _ A (call (.builtin "str.join") [.str sep _, .ref ad]) _ _ _
        rw [esep]
        refine (call_join (s := { s with heap := h', toks := tk }) O h8 hl hm hy hb F' N').use fun v h'' tk' news'' F'' N'' S'' r => ?_
        have e9 : V.den sep.cps.toList = sep := esep.symm
        exact h v h'' tk' news'' F'' N'' (S'.trans S'') r
      split at hd
      · rename_i x px
        split at hd
        · rename_i hl
          split at hd
          · rename_i ds hv
            split at hd
            · rename_i ls h2
              split at hd
              · rename_i hn
                cases hd
                refine go (e := .Name x px) rfl rfl (Nat.le_of_ble_eq_true hn) rfl ?_ ?_
                · obtain ⟨ad, vs, k, k1, k2, _, _, _⟩ := loc_lst (prog := prog) (w := w) hl hv px C F Y
                  exact (strs_of k2 h2).2.1
                · rintro s₁ ⟨tk, rfl⟩ Q' h'
                  obtain ⟨ad, vs, k, k1, k2, _, _, k3⟩ := loc_lst (prog := prog) (w := w) (s := { s with toks := tk }) hl hv px C F Y
                  exact k3 (h' _ s.heap tk news F N (.refl _) ⟨ad, vs, k, rfl, k1, (strs_of k2 h2).1⟩)
              · cases hd
            · cases hd
          · cases hd
        · cases hd
      · rename_i e _
        split at hd
        · rename_i ls h2
          split at hd
          · rename_i hn
            cases hd
            have hst : isStar e = false := by
              cases e <;> first | rfl | (unfold compD at h2; cases h2)
            refine go (e := e) hst rfl (Nat.le_of_ble_eq_true hn) rfl (ex_comp I J h2 C F N Y).1 ?_
            rintro s₁ ⟨tk, rfl⟩
            exact (ex_comp (s := { s with toks := tk }) I J h2 C F N Y).2
          · cases hd
        · cases hd
      · cases hd
    · cases hd
  · cases hd

end


section
variable {prog : Program} {w : World} {K : Frag} {pp : Program} {loose : List Str} {mean : ExcName → Option Value} {mg mb : Str → Option Value} {V : Va} {cfg : Cfg} {B n : Nat} {S : Self}
variable {A : Around} {h₀ : Heap} {cn : Str} {cs : Scope} {L a : Addr} {ccd : Value} {s : Shared} {m : Str → Option Value} {nb news : List (Addr × Obj)} {ρ : Rho}

theorem ex_step (O : V.Ok) (G : CfgOk K cfg) (I : ExOk prog w K pp loose mean mg mb V B n S) (T : TeOk prog w K pp loose mean mg mb V B n S) (J : CaOk prog w K pp loose mean mg mb V B n S) :
    ExOk prog w K pp loose mean mg mb V B (n + 1) (step cfg S) := by
  intro ρ e d hd A h₀ cn L a ccd C' s m nb news F N Y
  have C := C'.le (Nat.le_succ n)
  have hd : stepEx cfg S ρ e = some d := hd
  unfold stepEx at hd
  split at hd
  · exact ex_const hd F N
  · exact ex_name G hd C F N Y
  · split at hd
    · rename_i hn
      split at hd
      · rename_i ds hm
        cases hd
        exact ex_tuple I hn hm C F N Y
      · cases hd
    · cases hd
  · rename_i l op r q
    split at hd
    · rename_i x h1
      split at hd
      · rename_i y h2
        intro Q h
        refine wpAny_BinOp ((I ρ _ _ h1 A h₀ cn L a ccd C s m nb news F N Y).use fun vx h' tk news' F' N' S' rx => ?_)
        refine (I ρ _ _ h2 A h₀ cn L a ccd C { s with heap := h', toks := tk } m nb news' F' N' (Y.mono S')).use fun vy h'' tk' news'' F'' N'' S'' ry => ?_
        exact (bin_ok (s := { s with heap := h'', toks := tk' }) O hd (rx.mono S''.tups) ry F'' N'').use fun v h3 tk3 news3 F3 N3 S3 r3 => h v h3 tk3 news3 F3 N3 ((S'.trans S'').trans S3) r3
      · cases hd
    · cases hd
  · split at hd
    · rename_i h1
      cases hd
      exact ex_usub I h1 C F N Y
    · cases hd
  · split at hd
    · rename_i h1
      cases hd
      exact ex_not I h1 C F N Y
    · cases hd
  · split at hd
    · rename_i h1
      exact ex_if I T h1 hd C F N Y
    · rename_i h1
      exact ex_if I T h1 hd C F N Y
    · cases hd
  · split at hd
    · rename_i h1
      cases hd
      exact ex_cmp1 O I h1 C F N Y
    · cases hd
  · split at hd
    · rename_i h1
      cases hd
      exact ex_chain O I h1 C F N Y
    · cases hd
  · exact fun Q h => BoolOp_one (I ρ _ _ hd A h₀ cn L a ccd C s m nb news F N Y Q h)
  · split at hd
    · rename_i h1
      exact ex_or (c := true) I h1 (Option.some.inj hd).symm C F N Y
    · rename_i h1
      exact ex_or (c := false) I h1 hd C F N Y
    · cases hd
  · split at hd
    · rename_i h1
      exact ex_and (c := false) I h1 (Option.some.inj hd).symm C F N Y
    · rename_i h1
      exact ex_and (c := true) I h1 hd C F N Y
    · cases hd
  · exact ex_sub O I hd C F N Y
  · rename_i x y r q
    split at hd
    · rename_i l h1
      split at hd
      · rename_i hs
        cases hd
        intro Q h
        refine JoinedStr_many ?_
        exact ex_join O I C (acc := []) h1 hs F N Y Q h
      · cases hd
    · cases hd
  · exact ex_call O G I J hd C F N Y
  · exact ex_meth O I J hd C F N Y
  · cases hd

theorem boolD_of {o : Option D} {b : Bool} (h : boolD o = some b) : o = some (.bool b) := by
  unfold boolD at h
  split at h
  · cases h; rfl
  · cases h

theorem te_step (O : V.Ok) (I : ExOk prog w K pp loose mean mg mb V B n S) (T : TeOk prog w K pp loose mean mg mb V B n S) :
    TeOk prog w K pp loose mean mg mb V B (n + 1) (step cfg S) := by
  intro ρ e b hd A h₀ cn L a ccd C' s m nb news F N Y whole hw
  have C := C'.le (Nat.le_succ n)
  have hd : stepTe S ρ e = some b := hd
  unfold stepTe at hd
  split at hd
  · rename_i x q
    split at hd
    · rename_i c h1
      cases hd
      exact fun Q h => isTrue_not ((T ρ _ _ h1 A h₀ cn L a ccd C s m nb news F N Y _ (fun _ => rfl)).use fun c' h' tk news' F' N' S' e => h _ h' tk news' F' N' S' (by rw [e]))
    · cases hd
  · cases hd
    exact fun Q h => isTrue_and_nil (h _ s.heap s.toks news F N (.refl _) rfl)
  · rename_i x r q
    split at hd
    · rename_i h1
      refine fun Q h => isTrue_and ((T ρ _ _ h1 A h₀ cn L a ccd C s m nb news F N Y _ (fun _ => rfl)).use fun c' h' tk news' F' N' S' e => ?_)
      subst e
      rw [if_pos rfl]
      exact (T ρ _ b hd A h₀ cn L a ccd C { s with heap := h', toks := tk } m nb news' F' N' (Y.mono S') _ (fun k => absurd rfl (k _ _ _))).use fun c' h'' tk' news'' F'' N'' S'' e => h c' h'' tk' news'' F'' N'' (S'.trans S'') e
    · rename_i h1
      cases hd
      refine fun Q h => isTrue_and ((T ρ _ _ h1 A h₀ cn L a ccd C s m nb news F N Y _ (fun _ => rfl)).use fun c' h' tk news' F' N' S' e => ?_)
      subst e
      rw [if_neg (by decide)]
      exact h _ h' tk news' F' N' S' rfl
    · cases hd
  · cases hd
    exact fun Q h => isTrue_or_nil (h _ s.heap s.toks news F N (.refl _) rfl)
  · rename_i x r q
    split at hd
    · rename_i h1
      cases hd
      refine fun Q h => isTrue_or ((T ρ _ _ h1 A h₀ cn L a ccd C s m nb news F N Y _ (fun _ => rfl)).use fun c' h' tk news' F' N' S' e => ?_)
      subst e
      rw [if_pos rfl]
      exact h _ h' tk news' F' N' S' rfl
    · rename_i h1
      refine fun Q h => isTrue_or ((T ρ _ _ h1 A h₀ cn L a ccd C s m nb news F N Y _ (fun _ => rfl)).use fun c' h' tk news' F' N' S' e => ?_)
      subst e
      rw [if_neg (by decide)]
      exact (T ρ _ b hd A h₀ cn L a ccd C { s with heap := h', toks := tk } m nb news' F' N' (Y.mono S') _ (fun k => absurd rfl (k _ _ _))).use fun c' h'' tk' news'' F'' N'' S'' e => h c' h'' tk' news'' F'' N'' (S'.trans S'') e
    · cases hd
  · exact te_cmp1 O I hd C F N Y
  · exact te_chain O I hd C F N Y
  · have h1 := boolD_of hd
    have hw := hw (fun _ _ _ e => nomatch e)
    subst hw
    refine fun Q h => isTrue_plain ((I ρ _ _ h1 A h₀ cn L a ccd C s m nb news F N Y).use fun v h' tk news' F' N' S' r => ?_)
    cases r
    exact wpAny_truthy_bool (h _ h' tk news' F' N' S' rfl)
  · have h1 := boolD_of hd
    have hw := hw (fun _ _ _ e => nomatch e)
    subst hw
    refine fun Q h => isTrue_plain ((I ρ _ _ h1 A h₀ cn L a ccd C s m nb news F N Y).use fun v h' tk news' F' N' S' r => ?_)
    cases r
    exact wpAny_truthy_bool (h _ h' tk news' F' N' S' rfl)
  · cases hd

end


section
variable {prog : Program} {w : World} {K : Frag} {pp : Program} {loose : List Str} {mean : ExcName → Option Value} {mg mb : Str → Option Value} {V : Va} {cfg : Cfg} {B n : Nat} {S : Self}
variable {A : Around} {h₀ : Heap} {cn : Str} {cs : Scope} {L a : Addr} {ccd : Value} {s : Shared} {m : Str → Option Value} {nb news : List (Addr × Obj)} {ρ : Rho}

noncomputable def OutOk (V : Va) (nb : List (Addr × Obj)) (m : Str → Option Value) (news : List (Addr × Obj)) : Out → Flow → Prop
  | .go vars, .next => Loc V nb m news vars
  | .back d, .ret v => R V news v d
  | _, _ => False

noncomputable def Runs (M : Model) (A : Around) (h₀ : Heap) (L : Addr) (V : Va) (nb news : List (Addr × Obj)) (s : Shared) (t : Sem Flow) (o : Out) : Prop :=
  ∀ Q : Flow → Shared → Prop, (∀ f h' tk m' news', Fr h₀ L h' m' → News h₀ L h' news' → Sub nb news' → Tups news news' → OutOk V nb m' news' o f → Q f { s with heap := h', toks := tk }) → wpAny M A t Q Fa s

theorem Runs.use {M : Model} {t : Sem Flow} {o : Out} (g : Runs M A h₀ L V nb news s t o) {Q : Flow → Shared → Prop} {E : Value → Shared → Prop}
    (h : ∀ f h' tk m' news', Fr h₀ L h' m' → News h₀ L h' news' → Sub nb news' → Tups news news' → OutOk V nb m' news' o f → Q f { s with heap := h', toks := tk }) : wpAny M A t Q E s :=
  wpAny_mono (g Q h) (fun _ _ x => x) (fun _ _ x => x.elim)

noncomputable def StOk (prog : Program) (w : World) (K : Frag) (pp : Program) (loose : List Str) (mean : ExcName → Option Value) (mg mb : Str → Option Value) (V : Va) (B n : Nat) (S : Self) : Prop :=
  ∀ ρ b o, S.st ρ b = some o → ∀ A h₀ cn L a ccd, Cx K pp loose mean mg mb B A h₀ cn ρ.sc L a ccd n → ∀ s m nb news, Fr h₀ L s.heap m → News h₀ L s.heap news → Sub nb news → Loc V nb m news ρ.vars →
    Runs (model prog w) A h₀ L V nb news s (execs b (envOf cn ρ.sc L a ccd)) o

theorem Tups.refl (l : List (Addr × Obj)) : Tups l l := fun _ _ h => h
theorem Tups.trans {a b c : List (Addr × Obj)} (h : Tups a b) (k : Tups b c) : Tups a c := fun x vs hm => k x vs (h x vs hm)

theorem out_go {f : Flow} {vars : List (Str × Slot)} (h : OutOk V nb m news (.go vars) f) : f = .next ∧ Loc V nb m news vars := by
  cases f with
  | next => exact ⟨rfl, h⟩
  | _ => exact h.elim
theorem out_back {f : Flow} {d : D} (h : OutOk V nb m news (.back d) f) : ∃ v, f = .ret v ∧ R V news v d := by
  cases f with
  | ret v => exact ⟨v, rfl, h⟩
  | _ => exact h.elim

/-! ### one statement, then the rest -/

theorem then_ok (I : StOk prog w K pp loose mean mg mb V B n S) {st : Stmt} {rest : List Stmt} {o o' : Out} (hd : thenD S ρ rest (some o) = some o') (C : Cx K pp loose mean mg mb B A h₀ cn ρ.sc L a ccd n)
    (g : Runs (model prog w) A h₀ L V nb news s (exec st (envOf cn ρ.sc L a ccd)) o) : Runs (model prog w) A h₀ L V nb news s (execs (st :: rest) (envOf cn ρ.sc L a ccd)) o' := by
  intro Q h
  refine wpAny_execs_cons (g.use fun f h' tk m' news' F' N' S' T' k => ?_)
  cases o with
  | go vars =>
    obtain ⟨rfl, Y⟩ := out_go k
    exact (I { ρ with vars := vars } rest o' hd A h₀ cn L a ccd C { s with heap := h', toks := tk } m' nb news' F' N' S' Y).use fun f h'' tk' m'' news'' F'' N'' S'' T'' k => h f h'' tk' m'' news'' F'' N'' S'' (T'.trans T'') k
  | back d =>
    have hd : some (Out.back d) = some o' := hd
    cases hd
    obtain ⟨v, rfl, r⟩ := out_back k
    exact h _ h' tk m' news' F' N' S' T' r

/-! ### storing -/

theorem st_val {x : Str} {v : Value} {d : D} (hl : isLoc ρ.sc x = true) (C : Cx K pp loose mean mg mb B A h₀ cn ρ.sc L a ccd n) (F : Fr h₀ L s.heap m) (N : News h₀ L s.heap news) (Y : Loc V nb m news ρ.vars) (r : R V news v d)
    {M : Model} {E : Value → Shared → Prop} {Q : Unit → Shared → Prop} (h : ∀ h' tk m', Fr h₀ L h' m' → News h₀ L h' news → Loc V nb m' news ((x, .val d) :: ρ.vars) → Q () { s with heap := h', toks := tk }) :
    wpAny M A (storeName (envOf cn ρ.sc L a ccd) x v) Q E s := by
  obtain ⟨k1, _⟩ := isLoc_of hl
  exact stN F N (fun h' F' N' => h h' _ _ F' N' (Y.set r)) C.kind k1

theorem comp_swaps {v : Expr} {t : Expr} {k : Nat} {env : Env} (h : isComp v = false) : swapsWith v (some t) k env = pure false := by
  cases v <;> first | rfl | (simp [isComp] at h)

theorem st_assign (I : ExOk prog w K pp loose mean mg mb V B n S) {x : Str} {px q : Pos} {e : Expr} {d : D} (hl : isLoc ρ.sc x = true) (hc : isComp e = false) (hd : S.ex ρ e = some d)
    (C : Cx K pp loose mean mg mb B A h₀ cn ρ.sc L a ccd n) (F : Fr h₀ L s.heap m) (N : News h₀ L s.heap news) (hs : Sub nb news) (Y : Loc V nb m news ρ.vars) :
    Runs (model prog w) A h₀ L V nb news s (exec (.Assign [.Name x px] e q) (envOf cn ρ.sc L a ccd)) (.go ((x, .val d) :: ρ.vars)) := by
  intro Q h
  refine wpAny_Assign_Name ((I ρ e d hd A h₀ cn L a ccd C s m nb news F N Y).use fun v h' tk news' F' N' S' r => ?_) (comp_swaps hc)
  exact st_val (s := { s with heap := h', toks := tk }) hl C F' N' (Y.mono S') r fun h'' tk' m'' F'' N'' Y'' => h _ h'' tk' m'' news' F'' N'' (hs.trans S') S'.tups Y''

theorem st_nil {x : Str} {px q ql : Pos} (hl : isLoc ρ.sc x = true)
    (C : Cx K pp loose mean mg mb B A h₀ cn ρ.sc L a ccd n) (F : Fr h₀ L s.heap m) (N : News h₀ L s.heap news) (hs : Sub nb news) (Y : Loc V nb m news ρ.vars) :
    Runs (model prog w) A h₀ L V nb news s (exec (.Assign [.Name x px] (.List [] ql) q) (envOf cn ρ.sc L a ccd)) (.go ((x, .lst []) :: ρ.vars)) := by
  intro Q h
  obtain ⟨k1, _⟩ := isLoc_of hl
  refine wpAny_Assign_Name (List_ (args_nil (newList_N F N (fun h' F' N' => ?_) (by rw [sizeLine_eq]; decide)))) rfl
  refine stN (s := { s with heap := h' }) F' N' (fun h'' F'' N'' => ?_) C.kind k1
  refine h _ h'' _ _ _ F'' N'' (hs.trans (Sub.cons _)) (Sub.cons _).tups ?_
  exact (Y.mono (Sub.cons _)).set ⟨_, [], 0, rfl, List.mem_cons_self, .nil, fun p hp => Nat.ne_of_lt (Heap.lt_size (N p (hs p hp)).1)⟩

/-! ### unpacking a tuple -/

theorem setAll_cons {sc : Scope} {e : Expr} {es : List Expr} {ds0 : List D} {vars vars' : List (Str × Slot)} (h : setAll sc (e :: es) ds0 vars = some vars') :
    ∃ x px d ds, e = .Name x px ∧ ds0 = d :: ds ∧ isLoc sc x = true ∧ setAll sc es ds ((x, .val d) :: vars) = some vars' := by
  cases e with
  | Name x px =>
    cases ds0 with
    | nil => unfold setAll at h; cases h
    | cons d ds =>
      unfold setAll at h
      split at h
      · rename_i hl; exact ⟨x, px, d, ds, rfl, rfl, hl, h⟩
      · cases h
  | _ => unfold setAll at h; cases h
theorem setAll_nil {sc : Scope} {ds0 : List D} {vars vars' : List (Str × Slot)} (h : setAll sc [] ds0 vars = some vars') : ds0 = [] ∧ vars' = vars := by
  cases ds0 with
  | nil => unfold setAll at h; cases h; exact ⟨rfl, rfl⟩
  | cons d ds => unfold setAll at h; cases h

theorem set_each {env : Env} {sc : Scope} : ∀ (es : List Expr) {ds : List D} {vars vars' : List (Str × Slot)}, setAll sc es ds vars = some vars' → (assignEach es env).length = ds.length ∧ List.findIdx? (fun x => x.1) (assignEach es env) = none := by
  intro es
  induction es with
  | nil => intro ds vars vars' h; obtain ⟨rfl, _⟩ := setAll_nil h; exact ⟨rfl, rfl⟩
  | cons e es ih =>
    intro ds vars vars' h
    obtain ⟨x, px, d, ds', rfl, rfl, _, h'⟩ := setAll_cons h
    obtain ⟨k1, k2⟩ := ih h'
    refine ⟨congrArg (· + 1) k1, ?_⟩
    show List.findIdx? (fun x => x.1) ((false, assign (.Name x px) env) :: assignEach es env) = none
    rw [List.findIdx?_cons, k2]; rfl

theorem set_all (C : Cx K pp loose mean mg mb B A h₀ cn ρ.sc L a ccd n) : ∀ (es : List Expr) {ds : List D} {vars vars' : List (Str × Slot)} {vs : List Value} {s : Shared} {m : Str → Option Value}, setAll ρ.sc es ds vars = some vars' → RL V news vs ds →
    Fr h₀ L s.heap m → News h₀ L s.heap news → Loc V nb m news vars → ∀ {Q : Unit → Shared → Prop} {M : Model} {E : Value → Shared → Prop}, (∀ h' tk m', Fr h₀ L h' m' → News h₀ L h' news → Loc V nb m' news vars' → Q () { s with heap := h', toks := tk }) →
    wpAny M A (assignInOrder ((assignEach es (envOf cn ρ.sc L a ccd)).map (·.2)) vs) Q E s := by
  intro es
  induction es with
  | nil =>
    intro ds vars vars' vs s m hd hr F N Y Q M E h
    obtain ⟨rfl, rfl⟩ := setAll_nil hd
    cases hr
    exact wpAny_pure (h s.heap s.toks m F N Y)
  | cons e es ih =>
    intro ds vars vars' vs s m hd hr F N Y Q M E h
    obtain ⟨x, px, d, ds', rfl, rfl, hl, h'⟩ := setAll_cons hd
    cases hr with
    | cons r1 r2 =>
      rename_i v vs
      show wpAny M A (do holding vs (assign (.Name x px) (envOf cn ρ.sc L a ccd) v); assignInOrder ((assignEach es (envOf cn ρ.sc L a ccd)).map (·.2)) vs) Q E s
      refine wpAny_bind (wpAny_holding (assign_Name ?_))
      refine st_val (ρ := { ρ with vars := vars }) hl C F N Y r1 fun h1 tk m1 F1 N1 Y1 => ?_
      exact ih (s := { s with heap := h1, toks := tk }) h' r2 F1 N1 Y1 h

theorem st_unpack (I : ExOk prog w K pp loose mean mg mb V B n S) {es : List Expr} {x : Str} {k : Nat} {px q qt : Pos} {ds : List D} {vars : List (Str × Slot)} (hd : S.ex ρ (.Name x px) = some (.tup ds)) (ha : setAll ρ.sc es ds ρ.vars = some vars)
    (C : Cx K pp loose mean mg mb B A h₀ cn ρ.sc L a ccd n) (F : Fr h₀ L s.heap m) (N : News h₀ L s.heap news) (hs : Sub nb news) (Y : Loc V nb m news ρ.vars) :
    Runs (model prog w) A h₀ L V nb news s (exec (.Assign [.Tuple es k qt] (.Name x px) q) (envOf cn ρ.sc L a ccd)) (.go vars) := by
  intro Q h
  refine Assign_Tuple ((I ρ _ _ hd A h₀ cn L a ccd C s m nb news F N Y).use fun v h' tk news' F' N' S' r => ?_)
  cases r with
  | tup hm hr =>
    obtain ⟨k1, k2⟩ := set_each (env := envOf cn ρ.sc L a ccd) es ha
    refine unpackN_ (s := { s with heap := h', toks := tk }) F' N' (News.isTup N' hm) C.hh (by rw [k1, List.size_toArray, hr.length]) k2 fun h'' F'' N'' => ?_
    refine set_all C es (s := { s with heap := h'', toks := tk }) ha (by simpa using hr) F'' N'' (Y.mono S') fun h3 tk3 m3 F3 N3 Y3 => ?_
    exact h _ h3 tk3 m3 news' F3 N3 (hs.trans S') S'.tups Y3

end


section
variable {prog : Program} {w : World} {K : Frag} {pp : Program} {loose : List Str} {mean : ExcName → Option Value} {mg mb : Str → Option Value} {V : Va} {cfg : Cfg} {B n : Nat} {S : Self}
variable {A : Around} {h₀ : Heap} {cn : Str} {cs : Scope} {L a : Addr} {ccd : Value} {s : Shared} {m : Str → Option Value} {nb news : List (Addr × Obj)} {ρ : Rho}

/-! ### if -/

theorem st_if (J : StOk prog w K pp loose mean mg mb V B n S) (T : TeOk prog w K pp loose mean mg mb V B n S) {t : Expr} {b o : List Stmt} {q : Pos} {c : Bool} {out : Out} (ht : S.te ρ t = some c) (hd : S.st ρ (if c then b else o) = some out)
    (C : Cx K pp loose mean mg mb B A h₀ cn ρ.sc L a ccd n) (F : Fr h₀ L s.heap m) (N : News h₀ L s.heap news) (hs : Sub nb news) (Y : Loc V nb m news ρ.vars) :
    Runs (model prog w) A h₀ L V nb news s (exec (.If t b o q) (envOf cn ρ.sc L a ccd)) out := by
  intro Q h
  refine wpAny_If ((T ρ t c ht A h₀ cn L a ccd C s m nb news F N Y _ (fun _ => rfl)).use fun c' h' tk news' F' N' S' e => ?_)
  subst e
  cases c'
  · exact (J ρ o out hd A h₀ cn L a ccd C { s with heap := h', toks := tk } m nb news' F' N' (hs.trans S') (Y.mono S')).use fun f h'' tk' m'' news'' F'' N'' S'' T'' k => h f h'' tk' m'' news'' F'' N'' S'' (S'.tups.trans T'') k
  · exact (J ρ b out hd A h₀ cn L a ccd C { s with heap := h', toks := tk } m nb news' F' N' (hs.trans S') (Y.mono S')).use fun f h'' tk' m'' news'' F'' N'' S'' T'' k => h f h'' tk' m'' news'' F'' N'' S'' (S'.tups.trans T'') k

/-! ### append -/

noncomputable def neB (I : Addr) (p : Addr × Obj) : Bool := !(Nat.beq p.1 I)
theorem neB_iff {I : Addr} {p : Addr × Obj} : neB I p = true ↔ p.1 ≠ I := by
  unfold neB
  cases q : Nat.beq p.1 I with
  | true => exact ⟨fun h => (by cases h), fun h => absurd (Nat.eq_of_beq_eq_true q) h⟩
  | false => exact ⟨fun _ => Nat.ne_of_beq_eq_false q, fun _ => rfl⟩

theorem sole_get {x : Str} : ∀ {vars : List (Str × Slot)}, soleLst x vars = true → ∀ {y : Str} {sl : Slot}, vget vars y = some sl → y ≠ x → ∃ d, sl = .val d
  | [], _, y, sl, e, _ => by unfold vget at e; cases e
  | (z, .val d) :: r, h, y, sl, e, hne => by
    unfold vget at e
    split at e
    · cases e; exact ⟨d, rfl⟩
    · exact sole_get (vars := r) h e hne
  | (z, .lst ds) :: r, h, y, sl, e, hne => by
    unfold soleLst at h
    obtain ⟨h1, h2⟩ := Bool.and_eq_true_iff.mp h
    unfold vget at e
    split at e
    · rename_i hy
      exact absurd ((sEq_iff.mp hy).trans (sEq_iff.mp h1)) hne
    · exact sole_get (vars := r) h2 e hne

theorem tups_but {I : Addr} {o : Obj} (N : News h₀ L s.heap news) (hm : (I, o) ∈ news) (hc : o.cls ≠ .type "tuple") : Tups news (news.filter (neB I)) := by
  intro ad vs h
  refine List.mem_filter.mpr ⟨h, neB_iff.mpr fun e => ?_⟩
  have e : ad = I := e
  subst e
  have h1 := (N _ h).1
  have h2 := (N _ hm).1
  have h3 : tupO vs = o := Option.some.inj (h1.symm.trans h2)
  exact hc (by rw [← h3])

theorem st_append (I : ExOk prog w K pp loose mean mg mb V B n S) {x : Str} {px ap q qs : Pos} {e : Expr} {ds : List D} {d : D} (hl : isLoc ρ.sc x = true) (hst : isStar e = false) (hp : Nat.beq ap.endLine q.line = true) (hv : vget ρ.vars x = some (.lst ds)) (hn : ds.length < 1000) (hd : S.ex ρ e = some d) (hsole : soleLst x ρ.vars = true)
    (C : Cx K pp loose mean mg mb B A h₀ cn ρ.sc L a ccd n) (F : Fr h₀ L s.heap m) (N : News h₀ L s.heap news) (hs : Sub nb news) (Y : Loc V nb m news ρ.vars) :
    Runs (model prog w) A h₀ L V nb news s (exec (.Expr (.Call (.Attribute (.Name x px) (Str.ofString "append") ap) [e] [] q) qs) (envOf cn ρ.sc L a ccd)) (.go ((x, .lst (ds ++ [d])) :: ρ.vars)) := by
  intro Q h
  obtain ⟨ad, vs, k, k1, k2, k3, k4, k5⟩ := loc_lst (prog := prog) (w := w) hl hv px C F Y
  refine wpAny_Expr_any ?_ (by unfold interactive; show (ρ.sc.kind == .module && _) = false; rw [C.kind]; rfl) rfl
  refine MethodCall_ (pl := methPl _ _) (k5 (getMethod_append_N N k1 ?_)) (meth_eq rfl hst hp)
  refine callWith_builtin (by rw [star_cons hst]; rfl) ?_
  rw [star_cons hst]
  show wpAny _ A (evalArgs (.builtin "list.append") true ((false, eval e (envOf cn ρ.sc L a ccd)) :: []) []) _ _ _
  refine evalArgs_plain (spliced_cons ((I ρ e d hd A h₀ cn L a ccd C s m nb news F N Y).use fun v h' tk news' F' N' S' r => spliced_nil ?_))
  show wpAny _ A (call (.builtin "list.append") [.ref ad, v]) _ _ _
  have hm' := S' _ k1
  have z := N' _ hm'
  have hlen : vs.length < 1000 := by rw [k2.length]; exact hn
  refine append_at (s := { s with heap := h', toks := tk }) z.1 (fun h'' hs'' ho'' => ?_) (by rw [List.size_toArray, sizeLine_eq]; omega)
  have ho : h''.get? ad = some (lstO (vs ++ [v]) (k + 1)) := by
    rw [ho'', List.push_toArray]
  have F'' := F'.change hs'' z.2.1 z.2.2
  have tup' := tups_but (s := { s with heap := h' }) N' hm' (by show Value.type "list" ≠ .type "tuple"; decide)
  refine h .next h'' tk m ((ad, lstO (vs ++ [v]) (k + 1)) :: news'.filter (neB ad)) F'' (fun p hp => ?_) (fun p hp => ?_) ?_ ?_
  · rcases List.mem_cons.mp hp with rfl | hp
    · exact ⟨ho, z.2⟩
    · obtain ⟨hp, hne⟩ := List.mem_filter.mp hp
      exact ⟨(hs''.2 _ (neB_iff.mp hne)).trans (N' p hp).1, (N' p hp).2⟩
  · exact List.mem_cons_of_mem _ (List.mem_filter.mpr ⟨S' _ (hs p hp), neB_iff.mpr (k3 p hp)⟩)
  · exact fun b us hb => List.mem_cons_of_mem _ (tup' b us (S' _ hb))
  · have T2 : Tups news' ((ad, lstO (vs ++ [v]) (k + 1)) :: news'.filter (neB ad)) := fun b us hb => List.mem_cons_of_mem _ (tup' b us hb)
    intro y sl hy
    unfold vget at hy
    split at hy
    · rename_i hyx
      have hyx := sEq_iff.mp hyx
      subst hyx
      cases hy
      refine ⟨_, k4, ad, vs ++ [v], k + 1, rfl, List.mem_cons_self, ?_, k3⟩
      have snoc : ∀ {us : List Value} {es : List D}, RL V ((ad, lstO (vs ++ [v]) (k + 1)) :: news'.filter (neB ad)) us es → RL V ((ad, lstO (vs ++ [v]) (k + 1)) :: news'.filter (neB ad)) (us ++ [v]) (es ++ [d]) := by
        intro us es g
        induction us generalizing es with
        | nil => cases g; exact .cons (r.mono T2) .nil
        | cons u us ih => cases g with | cons g1 g2 => exact .cons g1 (ih g2)
      exact snoc ((k2.mono S'.tups).mono T2)
    · rename_i hyx
      obtain ⟨d', rfl⟩ := sole_get hsole hy (sEq_false hyx)
      obtain ⟨v', hv', r'⟩ := Y y _ hy
      exact ⟨v', hv', R.mono T2 (R.mono S'.tups r')⟩

/-! ### loops -/

/-- the ledger without the iterator -/
theorem loc_but {I : Addr} {it : Obj} {vars : List (Str × Slot)} (N : News h₀ L s.heap news) (hm : (I, it) ∈ news) (hc : it.cls ≠ .type "tuple") (Y : Loc V ((I, it) :: nb) m news vars) :
    Loc V nb m (news.filter (neB I)) vars := by
  intro x sl e
  obtain ⟨v, hv, k⟩ := Y x sl e
  refine ⟨v, hv, ?_⟩
  have T := tups_but N hm hc
  cases sl with
  | val d => exact R.mono T k
  | lst ds =>
    obtain ⟨ad, vs, n, rfl, h1, h2, h3⟩ := k
    refine ⟨ad, vs, n, rfl, List.mem_filter.mpr ⟨h1, neB_iff.mpr fun e => h3 _ List.mem_cons_self e.symm⟩, h2.mono T, fun p hp => h3 p (List.mem_cons_of_mem _ hp)⟩

/-- the ledger with the iterator -/
theorem loc_with {I : Addr} {it : Obj} {vars : List (Str × Slot)} (off : ∀ p ∈ news, p.1 ≠ I) (Y : Loc V nb m news vars) : Loc V ((I, it) :: nb) m ((I, it) :: news) vars := by
  intro x sl e
  obtain ⟨v, hv, k⟩ := Y x sl e
  refine ⟨v, hv, ?_⟩
  cases sl with
  | val d => exact R.mono (Sub.cons _).tups k
  | lst ds =>
    obtain ⟨ad, vs, n, rfl, h1, h2, h3⟩ := k
    refine ⟨ad, vs, n, rfl, List.mem_cons_of_mem _ h1, h2.mono (Sub.cons _).tups, fun p hp => ?_⟩
    rcases List.mem_cons.mp hp with rfl | hp
    · exact fun e => off _ h1 e.symm
    · exact h3 p hp

theorem range_loop (J : StOk prog w K pp loose mean mg mb V B n S) {x : Str} {body : List Stmt} {I : Addr} {tot : Nat} {Q : Flow → Shared → Prop} {E : Value → Shared → Prop} {out : Out} {news0 : List (Addr × Obj)} (C : Cx K pp loose mean mg mb B A h₀ cn ρ.sc L a ccd n)
    (h : ∀ f h' tk m' news', Fr h₀ L h' m' → News h₀ L h' news' → Sub nb news' → Tups news0 news' → OutOk V nb m' news' out f → Q f { s with heap := h', toks := tk }) :
    ∀ (k i : Nat) (vars : List (Str × Slot)) (m : Str → Option Value) (news : List (Addr × Obj)), loopD S ρ x body (intsD i k) vars = some out → Sub nb news → Tups news0 news → (∀ p ∈ news, p.1 ≠ I) → Loc V nb m news vars →
      RangeRest prog w A E h₀ (envOf cn ρ.sc L a ccd) x body Q s I 0 tot k i m news
  | 0, i, vars, m, news, hd, hs, ht, off, Y => by
    have hd : some (Out.go vars) = some out := hd
    cases hd
    exact RangeRest.zero fun h' tk F N => h .next h' tk m news F N hs ht Y
  | k + 1, i, vars, m, news, hd, hs, ht, off, Y => by
    unfold intsD loopD at hd
    refine RangeRest.succ fun t h' tk F N => ?_
    have Y1 := (loc_with (it := itR (0 + ((i + 1 : Nat) : Int)) ((tot : Int) - ((i + 1 : Nat) : Int))) off Y).set (x := x) (v := .int (0 + (i : Int)) t) (sl := .val (.int (.ofNat i))) (by show R V _ (.int (0 + (i : Int)) t) (.int (.ofNat i)); rw [show (0 + (i : Int)) = Int.ofNat i from Int.zero_add _]; exact R.int _ _)
    have off' : ∀ {l : List (Addr × Obj)}, (∀ p ∈ l.filter (neB I), p.1 ≠ I) := fun p hp => neB_iff.mp (List.mem_filter.mp hp).2
    split at hd
    · rename_i vars' hb
      refine (J { ρ with vars := (x, .val (.int (.ofNat i))) :: vars } body _ hb A h₀ cn L a ccd C { s with heap := h', toks := tk } _ ((I, _) :: nb) ((I, _) :: news) F N (fun p hp => by
        rcases List.mem_cons.mp hp with rfl | hp
        · exact List.mem_cons_self
        · exact List.mem_cons_of_mem _ (hs p hp)) Y1).use fun f h2 tk2 m2 news2 F2 N2 S2 T2 o => ?_
      obtain ⟨rfl, Y2⟩ := out_go o
      have hm := S2 _ List.mem_cons_self
      show UnrEnd _ _ _ _ _ _ _
      refine UnrEnd.intro (s₁ := { s with heap := h', toks := tk }) F2 N2 (news2.filter (neB I)) (fun p hp => ?_) off' ?_
      · rcases List.mem_cons.mp hp with rfl | hp
        · exact hm
        · exact (List.mem_filter.mp hp).1
      · have hc : (itR (0 + ((i + 1 : Nat) : Int)) ((tot : Int) - ((i + 1 : Nat) : Int))).cls ≠ .type "tuple" := by
          show Value.type "range_iterator" ≠ .type "tuple"; decide
        refine range_loop J C h k (i + 1) vars' m2 _ hd (fun p hp => ?_) (fun b us hb => tups_but (s := { s with heap := h2 }) N2 hm hc b us (T2 b us (List.mem_cons_of_mem _ (ht b us hb)))) off' (loc_but (s := { s with heap := h2 }) N2 hm hc Y2)
        exact List.mem_filter.mpr ⟨S2 _ (List.mem_cons_of_mem _ hp), neB_iff.mpr (off p (hs p hp))⟩
    · rename_i d' hb
      cases hd
      refine (J { ρ with vars := (x, .val (.int (.ofNat i))) :: vars } body _ hb A h₀ cn L a ccd C { s with heap := h', toks := tk } _ ((I, _) :: nb) ((I, _) :: news) F N (fun p hp => by
        rcases List.mem_cons.mp hp with rfl | hp
        · exact List.mem_cons_self
        · exact List.mem_cons_of_mem _ (hs p hp)) Y1).use fun f h2 tk2 m2 news2 F2 N2 S2 T2 o => ?_
      obtain ⟨v, rfl, r⟩ := out_back o
      exact h _ h2 tk2 m2 news2 F2 N2 (fun p hp => S2 _ (List.mem_cons_of_mem _ hp)) (fun b us hb => T2 b us (List.mem_cons_of_mem _ (ht b us hb))) r
    · cases hd

theorem item_loop (J : StOk prog w K pp loose mean mg mb V B n S) {x : Str} {px : Pos} {body : List Stmt} {I : Addr} {keep : Addr × Obj} {Q : Flow → Shared → Prop} {E : Value → Shared → Prop} {out : Out} {news0 : List (Addr × Obj)} (hl : isLoc ρ.sc x = true) (hkc : ∃ us, keep.2 = tupO us) (C : Cx K pp loose mean mg mb B A h₀ cn ρ.sc L a ccd n)
    (h : ∀ f h' tk m' news', Fr h₀ L h' m' → News h₀ L h' news' → Sub nb news' → Tups news0 news' → OutOk V nb m' news' out f → Q f { s with heap := h', toks := tk }) :
    ∀ (ds : List D) (vs : List Value) (vars : List (Str × Slot)) (m : Str → Option Value) (news : List (Addr × Obj)), loopD S ρ x body ds vars = some out → RL V news vs ds → keep ∈ news → Sub nb news → Tups news0 news → (∀ p ∈ news, p.1 ≠ I) → Loc V nb m news vars →
      ItemsRest prog w A E h₀ (envOf cn ρ.sc L a ccd) (.Name x px) body Q s [(I, "tuple_iterator")] [keep] (vs.map Itm.val) m news
  | [], vs, vars, m, news, hd, hr, hk, hs, ht, off, Y => by
    have hd : some (Out.go vars) = some out := hd
    cases hd
    cases hr
    exact ItemsRest.zero fun h' tk F N => h .next h' tk m news F N hs ht Y
  | d :: r, vs, vars, m, news, hd, hr, hk, hs, ht, off, Y => by
    cases hr with
    | cons rv rr =>
      rename_i v vs
      unfold loopD at hd
      refine ItemsRest.val fun h' tk F => AllObj.cons fun it hit => AllObj.nil fun N => ?_
      have N : News h₀ L h' ((I, it) :: news) := N
      have Y1 := loc_with (it := it) off Y
      have hc : it.cls ≠ .type "tuple" := by rw [hit]; show Value.type "tuple_iterator" ≠ .type "tuple"; decide
      have hs1 : Sub ((I, it) :: nb) ((I, it) :: news) := fun p hp => by
        rcases List.mem_cons.mp hp with rfl | hp
        · exact List.mem_cons_self
        · exact List.mem_cons_of_mem _ (hs p hp)
      have off' : ∀ {l : List (Addr × Obj)}, (∀ p ∈ l.filter (neB I), p.1 ≠ I) := fun p hp => neB_iff.mp (List.mem_filter.mp hp).2
      refine assign_Name (st_val (s := { s with heap := h', toks := tk }) (ρ := { ρ with vars := vars }) (nb := (I, it) :: nb) (n := n) hl C F N Y1 (R.mono (Sub.cons _).tups rv) fun h1 tk1 m1 F1 N1 Y2 => ?_)
      split at hd
      · rename_i vars' hb
        refine (J { ρ with vars := (x, .val d) :: vars } body _ hb A h₀ cn L a ccd C { s with heap := h1, toks := tk1 } _ ((I, it) :: nb) ((I, it) :: news) F1 N1 hs1 Y2).use fun f h2 tk2 m2 news2 F2 N2 S2 T2 o => ?_
        obtain ⟨rfl, Y3⟩ := out_go o
        have hm := S2 _ List.mem_cons_self
        have TT := tups_but (s := { s with heap := h2 }) N2 hm hc
        obtain ⟨us, hus⟩ := hkc
        have hk2 : keep ∈ news2.filter (neB I) := by
          have e : keep = (keep.1, tupO us) := by rw [← hus]
          rw [e]
          exact TT _ _ (T2 _ _ (List.mem_cons_of_mem _ (by rw [← e]; exact hk)))
        refine ⟨h2, tk2, m2, news2.filter (neB I), rfl, F2, fun p hp => ?_, fun p hp q hq => ?_, ⟨hk2, trivial⟩, ?_⟩
        · rcases List.mem_cons.mp hp with rfl | hp
          · exact N2 _ hm
          · exact N2 _ (List.mem_filter.mp hp).1
        · have hq : q = (I, it) := List.mem_singleton.mp hq
          subst hq
          exact off' p hp
        · refine item_loop J hl ⟨us, hus⟩ C h r vs vars' m2 _ hd (RL.mono (fun b us hb => TT b us (T2 b us (List.mem_cons_of_mem _ hb))) rr) hk2 (fun p hp => ?_) (fun b us hb => TT b us (T2 b us (List.mem_cons_of_mem _ (ht b us hb)))) off' (loc_but (s := { s with heap := h2 }) N2 hm hc Y3)
          exact List.mem_filter.mpr ⟨S2 _ (List.mem_cons_of_mem _ hp), neB_iff.mpr (off p (hs p hp))⟩
      · rename_i d' hb
        cases hd
        refine (J { ρ with vars := (x, .val d) :: vars } body _ hb A h₀ cn L a ccd C { s with heap := h1, toks := tk1 } _ ((I, it) :: nb) ((I, it) :: news) F1 N1 hs1 Y2).use fun f h2 tk2 m2 news2 F2 N2 S2 T2 o => ?_
        obtain ⟨v', rfl, r'⟩ := out_back o
        exact h _ h2 tk2 m2 news2 F2 N2 (fun p hp => S2 _ (List.mem_cons_of_mem _ hp)) (fun b us hb => T2 b us (List.mem_cons_of_mem _ (ht b us hb))) r'
      · cases hd

theorem intsD_len : ∀ i k, (intsD i k).length = k
  | _, 0 => rfl
  | i, k + 1 => congrArg (· + 1) (intsD_len (i + 1) k)

theorem st_for (G : CfgOk K cfg) (I : ExOk prog w K pp loose mean mg mb V B n S) (J : StOk prog w K pp loose mean mg mb V B n S) {x : Str} {px q : Pos} {iter : Expr} {body : List Stmt} {ds : List D} {out : Out} (hl : isLoc ρ.sc x = true) (hi : iterD S ρ iter = some ds) (hd : loopD S ρ x body ds ρ.vars = some out)
    (C : Cx K pp loose mean mg mb B A h₀ cn ρ.sc L a ccd n) (F : Fr h₀ L s.heap m) (N : News h₀ L s.heap news) (hs : Sub nb news) (Y : Loc V nb m news ρ.vars) :
    Runs (model prog w) A h₀ L V nb news s (exec (.For (.Name x px) iter body [] q) (envOf cn ρ.sc L a ccd)) out := by
  intro Q h
  obtain ⟨kx1, kx2⟩ := isLoc_of hl
  unfold iterD at hi
  split at hi
  · rename_i r pr l pl e qa qb
    split at hi
    · rename_i hok
      obtain ⟨hok, h5⟩ := Bool.and_eq_true_iff.mp hok
      obtain ⟨hok, h4⟩ := Bool.and_eq_true_iff.mp hok
      obtain ⟨hok, h3⟩ := Bool.and_eq_true_iff.mp hok
      obtain ⟨h1, h2⟩ := Bool.and_eq_true_iff.mp hok
      have h1 := sEq_iff.mp h1
      have h2 := sEq_iff.mp h2
      subst h1
      subst h2
      have hst : isStar e = false := by simpa using h5
      obtain ⟨kr1, kr2⟩ := isGlo_of h3
      obtain ⟨kl1, kl2⟩ := isGlo_of h4
      split at hi
      · rename_i t h6
        split at hi
        · rename_i hc
          cases hi
          obtain ⟨hc, hsh⟩ := Bool.and_eq_true_iff.mp hc
          have hlt := short_lt hsh
          have hfor : (ρ.sc.kind == ScopeKind.class || ρ.sc.kind == ScopeKind.module && L != mainGlobals) = false := by rw [C.kind]; rfl
          refine For_invVF (h₀ := h₀) F kx1 hfor ?_ (fun _ => rfl) PassesOwn.never
          refine Call_ ?_
          refine name_B F C.kin (topRead_of C.top) G.range rfl (by decide) ?_ C.kind kr1 kr2
          refine PyProof.Rows.callWith_type1 ?_ rfl rfl
          show wpAny _ A (spliced ((false, eval (.Call (.Name (Str.ofString "len") pl) [e] [] qa) (envOf cn ρ.sc L a ccd)) :: [])) _ _ _
          refine spliced_cons ?_
          refine Call_ ?_
          refine name_B F C.kin (topRead_of C.top) G.len rfl (by decide) ?_ C.kind kl1 kl2
          refine PyProof.Rows.callWith_builtin1 ?_ (star_cons hst _ _) rfl
          rw [star_cons hst]
          show wpAny _ A (spliced ((false, eval e (envOf cn ρ.sc L a ccd)) :: [])) _ _ _
          refine spliced_cons ((I ρ e _ h6 A h₀ cn L a ccd C s m nb news F N Y).use fun v h' tk news' F' N' S' rv => spliced_nil ?_)
          cases rv
          have elen : (V.den t).length = t.length := by rw [den_closed V hc]; simp [Str.length]
          refine SBL.len (s := { s with heap := h', toks := tk }) (by rw [elen]; omega) (spliced_nil ?_)
          rw [elen]
          refine range1_rows (s := { s with heap := h', toks := tk + 1 + 1 }) F' N' fun h2 tk2 t1 u1 v1 hR F2 N2 hk2 => ?_
          refine iter_rangeUnr (n := t.length) C.hh hR (small_one (by decide) (by decide) (by have := Int.natCast_nonneg t.length; exact Int.le_trans (by decide) this) (by omega)) ?_ F2 N2 fun I' hI => ?_
          · rw [rangeSize_one]
            split
            · omega
            · omega
          · refine range_loop (s := { s with heap := h2, toks := tk2 }) J C (nb := nb) (news0 := news) (fun f h3 tk3 m3 news3 F3 N3 S3 T3 o => h f h3 tk3 m3 news3 F3 N3 S3 T3 o) t.length 0 ρ.vars m news' hd (hs.trans S') S'.tups (fun p hp => Nat.ne_of_lt (hI p hp)) (Y.mono S')
        · cases hi
      · cases hi
    · cases hi
  · split at hi
    · cases hi
    · rename_i hset
      split at hi
      · rename_i ds' h6
        cases hi
        refine For_turns (h₀ := h₀) (m := m) F ?_ (folded_plain hset) PassesOwn.never
        refine (I ρ _ _ h6 A h₀ cn L a ccd C s m nb news F N Y).use fun v h' tk news' F' N' S' rv => ?_
        cases rv with
        | tup hm hr =>
          refine iter_tupTurns (s := { s with heap := h', toks := tk }) C.hh F' N' hm rfl rfl fun I' hI => ?_
          exact item_loop (s := { s with heap := h', toks := tk }) J hl ⟨_, rfl⟩ C (nb := nb) (news0 := news) (fun f h3 tk3 m3 news3 F3 N3 S3 T3 o => h f h3 tk3 m3 news3 F3 N3 S3 T3 o) _ _ ρ.vars m news' hd hr hm (hs.trans S') S'.tups (fun p hp => Nat.ne_of_lt (hI p hp)) (Y.mono S')
      · cases hi

end


section
variable {prog : Program} {w : World} {K : Frag} {pp : Program} {loose : List Str} {mean : ExcName → Option Value} {mg mb : Str → Option Value} {V : Va} {cfg : Cfg} {B n : Nat} {S : Self}
variable {A : Around} {h₀ : Heap} {cn : Str} {cs : Scope} {L a : Addr} {ccd : Value} {s : Shared} {m : Str → Option Value} {nb news : List (Addr × Obj)} {ρ : Rho}

theorem stmt_ok (G : CfgOk K cfg) (I : ExOk prog w K pp loose mean mg mb V B n S) (T : TeOk prog w K pp loose mean mg mb V B n S) (J : StOk prog w K pp loose mean mg mb V B n S) {st : Stmt} {o : Out} (hst : stmtD S ρ st = some o)
    (C : Cx K pp loose mean mg mb B A h₀ cn ρ.sc L a ccd n) (F : Fr h₀ L s.heap m) (N : News h₀ L s.heap news) (hs : Sub nb news) (Y : Loc V nb m news ρ.vars) :
    Runs (model prog w) A h₀ L V nb news s (exec st (envOf cn ρ.sc L a ccd)) o := by
  unfold stmtD at hst
  split at hst
  · split at hst
    · rename_i h1
      cases hst
      exact fun Q h => wpAny_Return_some ((I ρ _ _ h1 A h₀ cn L a ccd C s m nb news F N Y).use fun v h' tk news' F' N' S' r => h _ h' tk m news' F' N' (hs.trans S') S'.tups r)
    · cases hst
  · cases hst
    exact fun Q h => wpAny_Return_none (h _ s.heap s.toks m news F N hs (Tups.refl _) .none)
  · split at hst
    · rename_i hok
      obtain ⟨hl, hc⟩ := Bool.and_eq_true_iff.mp hok
      split at hst
      · cases hst
        exact st_nil hl C F N hs Y
      · split at hst
        · rename_i h1
          cases hst
          exact st_assign I hl (by simpa using hc) h1 C F N hs Y
        · cases hst
    · cases hst
  · split at hst
    · rename_i h1
      split at hst
      · rename_i h2
        cases hst
        exact st_unpack I h1 h2 C F N hs Y
      · cases hst
    · cases hst
  · split at hst
    · rename_i h1
      exact st_if J T h1 hst C F N hs Y
    · rename_i h1
      exact st_if J T h1 hst C F N hs Y
    · cases hst
  · split at hst
    · rename_i hok
      obtain ⟨hok, h4⟩ := Bool.and_eq_true_iff.mp hok
      obtain ⟨hok, h3⟩ := Bool.and_eq_true_iff.mp hok
      obtain ⟨h1, h2⟩ := Bool.and_eq_true_iff.mp hok
      have h2 := sEq_iff.mp h2
      subst h2
      split at hst
      · rename_i hv
        split at hst
        · rename_i hn
          split at hst
          · rename_i he
            split at hst
            · rename_i hsole
              cases hst
              exact st_append I h3 (by simpa using h4) h1 hv (Nat.le_of_ble_eq_true hn) he hsole C F N hs Y
            · cases hst
          · cases hst
        · cases hst
      · cases hst
    · cases hst
  · split at hst
    · rename_i hl
      split at hst
      · rename_i h1
        exact st_for G I J hl h1 hst C F N hs Y
      · cases hst
    · cases hst
  · cases hst


theorem st_step (G : CfgOk K cfg) (I : ExOk prog w K pp loose mean mg mb V B n S) (T : TeOk prog w K pp loose mean mg mb V B n S) (J : StOk prog w K pp loose mean mg mb V B n S) :
    StOk prog w K pp loose mean mg mb V B (n + 1) (step cfg S) := by
  intro ρ b o hd A h₀ cn L a ccd C' s m nb news F N hs Y
  have C := C'.le (Nat.le_succ n)
  have hd : stepSt S ρ b = some o := hd
  cases b with
  | nil =>
    have hd : some (Out.go ρ.vars) = some o := hd
    cases hd
    exact fun Q h => wpAny_execs_nil (h .next s.heap s.toks m news F N hs (Tups.refl _) Y)
  | cons st rest =>
    have hd : thenD S ρ rest (stmtD S ρ st) = some o := hd
    cases hst : stmtD S ρ st with
    | none => rw [hst] at hd; cases hd
    | some o1 =>
      rw [hst] at hd
      refine then_ok J hd C ?_
      exact stmt_ok G I T J hst C F N hs Y

/-! ### calls -/

/-- the written part has this def -/
noncomputable def FnOk (K : Frag) (f : Str) (r : FnR) : Prop :=
  ∃ fa oc od name qual params dV kV doc pm an cdv ct osl, nsIn K mainGlobals f = some (some (.ref fa)) ∧ keepIn K (.ref fa) = true ∧
    K.lookup fa = some ⟨oc, od, .func (fnOf name qual params r.body r.sc dV kV doc pm an cdv ct), osl⟩ ∧ codeIn K cdv qual = true ∧
    (∀ (s : Shared) (vs : List Value), K.In s.heap → vs.length = r.params.length → BindsTo s (fnOf name qual params r.body r.sc dV kV doc pm an cdv ct) ⟨vs, []⟩ (r.params.zip vs)) ∧
    (r.dflt = true → ∀ (s : Shared) (vs : List Value), K.In s.heap → vs.length + 1 = r.params.length → BindsTo s (fnOf name qual params r.body r.sc dV kV doc pm an cdv ct) ⟨vs, []⟩ (r.params.zip (vs ++ [.bool false]))) ∧
    (∀ y ∈ r.params, r.sc.names.lookup y = some .local) ∧ r.sc.isCoroutine = false ∧ r.sc.isGenerator = false ∧ r.sc.kind = .function ∧ ∀ x ∈ r.sc.names, x.2 ≠ .cell

inductive Par (V : Va) (nb news : List (Addr × Obj)) : List (Str × Value) → List (Str × Slot) → Prop
  | nil : Par V nb news [] []
  | cons {x : Str} {v : Value} {sl : Slot} {l : List (Str × Value)} {k : List (Str × Slot)} (h : SlotOk V nb news v sl) (t : Par V nb news l k) : Par V nb news ((x, v) :: l) ((x, sl) :: k)
theorem Par.snoc {x : Str} {v : Value} {sl : Slot} {l : List (Str × Value)} {k : List (Str × Slot)} (h : SlotOk V nb news v sl) (t : Par V nb news l k) : Par V nb news (l ++ [(x, v)]) (k ++ [(x, sl)]) := by
  induction t with
  | nil => exact .cons h .nil
  | cons g _ ih => exact .cons g ih
theorem Par.reverse {l : List (Str × Value)} {k : List (Str × Slot)} (t : Par V nb news l k) : Par V nb news l.reverse k.reverse := by
  induction t with
  | nil => exact .nil
  | cons g _ ih => rw [List.reverse_cons, List.reverse_cons]; exact ih.snoc g
theorem Par.loc {l : List (Str × Value)} {k : List (Str × Slot)} (t : Par V nb news l k) : Loc V nb (fun y => List.lookup y l) news k := by
  induction t with
  | nil => intro x sl e; unfold vget at e; cases e
  | @cons x v sl l k g _ ih =>
    intro y sl' e
    unfold vget at e
    cases q : sEq y x with
    | true =>
      rw [q] at e
      cases e
      refine ⟨v, ?_, g⟩
      show List.lookup y ((x, v) :: l) = some v
      rw [List.lookup_cons, beq_sEq, q]
    | false =>
      rw [q] at e
      obtain ⟨v', a, b⟩ := ih y sl' e
      refine ⟨v', ?_, b⟩
      show List.lookup y ((x, v) :: l) = some v'
      rw [List.lookup_cons, beq_sEq, q]
      exact a
theorem Par.zip : ∀ {xs : List Str} {vs : List Value} {ds : List D} {k : List (Str × Slot)}, zipV xs ds = some k → RL V news vs ds → Par V nb news (xs.zip vs) k ∧ xs.length = ds.length
  | [], vs, [], k, h, r => by unfold zipV at h; cases h; cases r; exact ⟨.nil, rfl⟩
  | [], _, _ :: _, _, h, _ => by unfold zipV at h; cases h
  | _ :: _, _, [], _, h, _ => by unfold zipV at h; cases h
  | x :: xs, vs, d :: ds, k, h, r => by
    unfold zipV at h
    split at h
    · rename_i k' e
      cases h
      cases r with
      | cons r1 r2 =>
        obtain ⟨p, q⟩ := Par.zip e r2
        exact ⟨.cons r1 p, congrArg (· + 1) q⟩
    · cases h

theorem RL.snoc {vs : List Value} {ds : List D} {v : Value} {d : D} (h : RL V news vs ds) (r : R V news v d) : RL V news (vs ++ [v]) (ds ++ [d]) := by
  induction vs generalizing ds with
  | nil => cases h; exact .cons r .nil
  | cons u us ih => cases h with | cons h1 h2 => exact .cons h1 (ih h2)

theorem CallOk.le {f : Str} {ds : List D} {d : D} {k : Nat} (h : CallOk prog w K pp loose mean mg mb V B k f ds d) (hk : k ≤ n) : CallOk prog w K pp loose mean mg mb V B n f ds d := by
  obtain ⟨fa, a, b, c⟩ := h
  exact ⟨fa, a, b, fun A h₀ cn cs L ad ccd C => c A h₀ cn cs L ad ccd (C.le hk)⟩

/-- a def whose body, from its parameters on, runs to an end: the call hands back what that end says -/
theorem call_body {f : Str} {r : FnR} {ds : List D} {vars : List (Str × Slot)} {P : List (Addr × Obj) → Value → Prop} (hB : B ≤ 900) (hr : FnOk K f r) (hb : bindD r ds = some vars)
    (HB : ∀ A h₀ cn L a ccd, Cx K pp loose mean mg mb B A h₀ cn r.sc L a ccd n → ∀ (s : Shared) m news, Fr h₀ L s.heap m → News h₀ L s.heap news → Loc V news m news vars → ∀ Q : Flow → Shared → Prop,
      (∀ fl h' tk m' news', Fr h₀ L h' m' → News h₀ L h' news' → Sub news news' → P news' (match fl with | .ret v => v | _ => .none) → Q fl { s with heap := h', toks := tk }) → wpAny (model prog w) A (execs r.body (envOf cn r.sc L a ccd)) Q Fa s) :
    ∃ fa, nsIn K mainGlobals f = some (some (.ref fa)) ∧ keepIn K (.ref fa) = true ∧ ∀ A h₀ cn cs L a ccd, Cx K pp loose mean mg mb B A h₀ cn cs L a ccd (n + 1) → ∀ s m news vs, Fr h₀ L s.heap m → News h₀ L s.heap news → RL V news vs ds →
      Gives (model prog w) A h₀ L m news s (call (.ref fa) vs) P := by
  obtain ⟨fa, oc, od, name, qual, params, dV, kV, doc, pm, an, cdv, ct, osl, g1, g2, g3, g4, g5, g6, g7, g8, g9, g10, g11⟩ := hr
  refine ⟨fa, g1, g2, ?_⟩
  intro A h₀ cn cs L a ccd C s m news vs F N hrl
  have key : ∃ binds, BindsTo s (fnOf name qual params r.body r.sc dV kV doc pm an cdv ct) ⟨vs, []⟩ binds ∧ (∀ y ∈ binds, r.sc.names.lookup y.1 = some .local) ∧ Par V news news binds.reverse vars := by
    have hloc : ∀ ws : List Value, ∀ y ∈ r.params.zip ws, r.sc.names.lookup y.1 = some .local := fun ws y hy => g7 y.1 (List.of_mem_zip hy).1
    unfold bindD at hb
    split at hb
    · rename_i l hz
      cases hb
      obtain ⟨p1, p2⟩ := Par.zip (nb := news) hz hrl
      exact ⟨_, g5 s vs (C.kin.keeps F.keep) (by rw [hrl.length, p2]), hloc _, p1.reverse⟩
    · split at hb
      · rename_i hdf
        split at hb
        · rename_i l hz
          cases hb
          obtain ⟨p1, p2⟩ := Par.zip (nb := news) hz (hrl.snoc (.bool false))
          refine ⟨_, g6 hdf s vs (C.kin.keeps F.keep) ?_, hloc _, p1.reverse⟩
          rw [hrl.length, p2, List.length_append]; rfl
        · cases hb
      · cases hb
  obtain ⟨binds, k1, k2, k3⟩ := key
  intro Q h
  obtain ⟨A₀, base, outer, Bl, hA⟩ := C.below
  refine wpAny_call (code_def (env := envOf cn cs L a ccd) Bl F C.kin N C.top hA rfl C.kind g3 g4 ?_ k1 k2 (fun g L' h₁ FG F' N' B' X' T' => ?_) g8 g9 g10 g11)
  · have := C.dep
    show A.depth < 1000
    omega
  · have C' : Cx K pp loose mean mg mb B (A.deeper (envOf qual r.sc L' fa cdv)) g qual r.sc L' fa cdv n :=
      ⟨⟨A, base, _, B', Around.frames_deeper hA⟩, X', T', g10, C.hh, by have := C.dep; rw [depth_deeper]; omega⟩
    refine wpAny_mono (HB _ g qual L' fa cdv C' { s with heap := h₁, toks := s.toks + binds.length } _ news F' N' k3.loc _ fun fl h2 tk2 m2 news2 F2 N2 S2 k => ?_) (fun _ _ x => x) (fun _ _ x => x.elim)
    exact leaveK_ F2 N2 fun F9 N9 => h _ h2 tk2 news2 F9 N9 S2 k

theorem ca_step (hB : B ≤ 900) (Fn : ∀ f r, cfg.fn f = some r → FnOk K f r) (Orc : ∀ f ds d, cfg.orc f ds = some d → CallOk prog w K pp loose mean mg mb V B 0 f ds d) (J : StOk prog w K pp loose mean mg mb V B n S) :
    CaOk prog w K pp loose mean mg mb V B (n + 1) (step cfg S) := by
  intro f ds d hd
  have hd : stepCa cfg S f ds = some d := hd
  unfold stepCa at hd
  split at hd
  · rename_i d' ho
    cases hd
    exact (Orc f ds d ho).le (Nat.zero_le _)
  · split at hd
    · rename_i r hr
      split at hd
      · rename_i vars hb
        cases hst : S.st ⟨r.sc, vars⟩ r.body with
        | none => rw [hst] at hd; cases hd
        | some o =>
          rw [hst] at hd
          refine call_body hB (Fn f r hr) hb fun A h₀ cn L a ccd C s m news F N Y Q h => ?_
          refine (J ⟨r.sc, vars⟩ r.body o hst A h₀ cn L a ccd C s m news news F N (Sub.refl _) Y).use fun fl h2 tk2 m2 news2 F2 N2 S2 T2 k => ?_
          cases o with
          | go vars' =>
            cases hd
            obtain ⟨rfl, _⟩ := out_go k
            exact h _ h2 tk2 m2 news2 F2 N2 S2 .none
          | back d' =>
            cases hd
            obtain ⟨v, rfl, r'⟩ := out_back k
            exact h _ h2 tk2 m2 news2 F2 N2 S2 r'
      · cases hd
    · cases hd

theorem bot_ok : ExOk prog w K pp loose mean mg mb V B 0 bot ∧ TeOk prog w K pp loose mean mg mb V B 0 bot ∧ StOk prog w K pp loose mean mg mb V B 0 bot ∧ CaOk prog w K pp loose mean mg mb V B 0 bot :=
  ⟨fun _ _ _ h => (nomatch h), fun _ _ _ h => (nomatch h), fun _ _ _ h => (nomatch h), fun _ _ _ h => (nomatch h)⟩

theorem ev_ok (O : V.Ok) (G : CfgOk K cfg) (hB : B ≤ 900) (Fn : ∀ f r, cfg.fn f = some r → FnOk K f r) (Orc : ∀ f ds d, cfg.orc f ds = some d → CallOk prog w K pp loose mean mg mb V B 0 f ds d) :
    ∀ n, ExOk prog w K pp loose mean mg mb V B n (ev cfg n) ∧ TeOk prog w K pp loose mean mg mb V B n (ev cfg n) ∧ StOk prog w K pp loose mean mg mb V B n (ev cfg n) ∧ CaOk prog w K pp loose mean mg mb V B n (ev cfg n)
  | 0 => bot_ok
  | n + 1 => by
    obtain ⟨I, T, J, C⟩ := ev_ok O G hB Fn Orc n
    exact ⟨ex_step O G I T C, te_step O I T, st_step G I T J, ca_step hB Fn Orc J⟩

end


/-! ## the text's own defs, closed runs -/

noncomputable def fnR (x : Str) : FnR := match defOf x progBody with
  | some r => r
  | none => ⟨[], false, [], ⟨.function, [], false, false, []⟩⟩
noncomputable def fnNames : List Str := [Str.ofString "numeral_text", Str.ofString "keyword_words", Str.ofString "is_simple_name", Str.ofString "id_text", Str.ofString "list_text", Str.ofString "expr_text",
  Str.ofString "type_text", Str.ofString "range_text", Str.ofString "strength_text", Str.ofString "delays_text", Str.ofString "declarator_text", Str.ofString "param_text", Str.ofString "declaration_text",
  Str.ofString "label_text", Str.ofString "gate_text", Str.ofString "_law_rows"]
noncomputable def inL (x : Str) : List Str → Bool
  | [] => false
  | y :: r => sEq x y || inL x r
theorem inL_mem {x : Str} : ∀ {l : List Str}, inL x l = true → x ∈ l
  | y :: r, h => by
    rcases Bool.or_eq_true_iff.mp h with h | h
    · rw [sEq_iff.mp h]; exact List.mem_cons_self
    · exact List.mem_cons_of_mem _ (inL_mem h)
noncomputable def fnTab (f : Str) : Option FnR := match inL f fnNames with
  | true => defOf f progBody
  | false => none
noncomputable def gintTab (x : Str) : Option Int := match sEq x (Str.ofString "PLAIN_BITS") with
  | true => some 32
  | false => none

/-- what the written part has to have -/
structure KOk (K : Frag) : Prop where
  tab : ∀ x ∈ fnNames, FnOk K x (fnR x)
  bits : ∃ t, nsIn K mainGlobals (Str.ofString "PLAIN_BITS") = some (some (.int 32 t))
  str : nsIn K mainGlobals (Str.ofString "str") = some none
  range : nsIn K mainGlobals (Str.ofString "range") = some none
  len : nsIn K mainGlobals (Str.ofString "len") = some none

theorem KOk.fn {K : Frag} (H : KOk K) : ∀ f r, fnTab f = some r → FnOk K f r := by
  intro f r h
  unfold fnTab at h
  split at h
  · rename_i hm
    have e : fnR f = r := by unfold fnR; rw [h]
    exact e ▸ H.tab f (inL_mem hm)
  · cases h

/-- the keywords' text, as the program writes it -/
noncomputable def kwC : Str := match (fnR (Str.ofString "keyword_words")).body with
  | [.Return (some (.Constant (.str x) _ _)) _] => x
  | _ => Str.empty
noncomputable def kwP : (s : String) ×' (kwC = Str.ofString s) := ⟨_, rfl⟩
noncomputable def kwQ : (l : List Char) ×' (kwP.1 = String.ofList l) := ⟨_, rfl⟩
noncomputable def kwL : List Nat := kwQ.1.map Char.toNat
theorem kw_cps : kwC = ⟨kwL.toArray⟩ := by
  rw [kwP.2]
  show (⟨(cpsOfBytes 0 0 kwP.1.toByteArray.data.toList).toArray⟩ : Str) = _
  rw [cpsOfBytes_string, kwQ.2, String.toList_ofList]
  rfl
theorem kw_closed : closed kwL = true := by decide +kernel
theorem kw_body : ∃ k q q', (fnR (Str.ofString "keyword_words")).body = [.Return (some (.Constant (.str kwC) k q)) q'] := ⟨_, _, _, rfl⟩

noncomputable def nilD : List D → Bool
  | [] => true
  | _ => false
noncomputable def orcA (f : Str) (ds : List D) : Option D := match nilD ds && sEq f (Str.ofString "keyword_words") with
  | true => some (.str kwL)
  | false => none
noncomputable def cfgA : Cfg := { fn := fnTab, gint := gintTab, orc := orcA }

noncomputable def sameS (o : Option D) (l : List Nat) : Bool := match o with
  | some (.str l') => nEq l' l
  | _ => false
theorem sameS_of {o : Option D} {l : List Nat} (h : sameS o l = true) : o = some (.str l) := by
  unfold sameS at h
  split at h
  · rw [nEq_iff.mp h]
  · cases h

/-- a name, as it is spelled -/
noncomputable def pairsN : List (List Nat × List Nat) := [([119], [119]), ([105, 102], [92, 105, 102, 32]), ([97, 43, 98], [92, 97, 43, 98, 32])]
noncomputable def pairsC : List (List Nat × List Nat) := [([97], [97]), ([98], [98]), ([99], [99]), ([80], [80])]
theorem idA_all : ((pairsN ++ pairsC).all fun p => closed p.1 && closed p.2 && sameS ((ev cfgA 60).ca (Str.ofString "id_text") [.str p.1]) p.2) = true := by decide +kernel
theorem numA_w : sameS ((ev cfgA 60).ca (Str.ofString "numeral_text") [.tup [.int 32, .wid, .int 0], .bool true, .bool false]) [WT] = true := by decide +kernel
theorem numA_0 : sameS ((ev cfgA 60).ca (Str.ofString "numeral_text") [.tup [.int 32, .int 0, .int 0], .bool true, .bool false]) [48] = true := by decide +kernel

noncomputable def idL : List Nat → Option (List Nat)
  | [c] => match Nat.beq c NM with
    | true => some [SP]
    | false => match Nat.beq c 97 || Nat.beq c 98 || Nat.beq c 99 || Nat.beq c 80 with
      | true => some [c]
      | false => none
  | _ => none
noncomputable def numD : List D → Option D
  | [.tup [.int 32, .wid, .int 0], .bool true, .bool false] => some (.str [WT])
  | [.tup [.int 32, .int 0, .int 0], .bool true, .bool false] => some (.str [48])
  | _ => none
noncomputable def orcB (f : Str) (ds : List D) : Option D := match sEq f (Str.ofString "id_text") with
  | true => match ds with
    | [.str l] => match idL l with
      | some l' => some (.str l')
      | none => none
    | _ => none
  | false => match sEq f (Str.ofString "numeral_text") with
    | true => numD ds
    | false => none
noncomputable def cfgB : Cfg := { fn := fnTab, gint := gintTab, orc := orcB }

section
variable {prog : Program} {w : World} {K : Frag} {pp : Program} {loose : List Str} {mean : ExcName → Option Value} {mg mb : Str → Option Value} {V : Va} {B n : Nat}

theorem KOk.cfgOk (H : KOk K) {o : Str → List D → Option D} : CfgOk K { fn := fnTab, gint := gintTab, orc := o } where
  gint := fun x i h => by
    have h : gintTab x = some i := h
    unfold gintTab at h
    split at h
    · rename_i e
      cases h
      rw [sEq_iff.mp e]; exact H.bits
    · cases h
  str := H.str
  range := H.range
  len := H.len

theorem CallOk.bound {f : Str} {ds : List D} {d : D} {k B' : Nat} (h : CallOk prog w K pp loose mean mg mb V B k f ds d) (hk : B' + k ≤ B) : CallOk prog w K pp loose mean mg mb V B' 0 f ds d := by
  obtain ⟨fa, a, b, c⟩ := h
  refine ⟨fa, a, b, fun A h₀ cn cs L ad ccd C => c A h₀ cn cs L ad ccd ⟨C.below, C.kin, C.top, C.kind, C.hh, ?_⟩⟩
  have := C.dep
  omega

theorem kw_ok (H : KOk K) : CallOk prog w K pp loose mean mg mb V 899 0 (Str.ofString "keyword_words") [] (.str kwL) := by
  refine CallOk.bound (k := 1) (B := 900) ?_ (by decide)
  refine call_body (n := 0) (by decide) (H.tab _ (by unfold fnNames; exact List.mem_cons_of_mem _ List.mem_cons_self)) (vars := []) rfl fun A h₀ cn L a ccd C s m news F N Y Q h => ?_
  obtain ⟨k, q, q', e⟩ := kw_body
  rw [e]
  refine wpAny_execs_cons (wpAny_Return_some (Constant_str ?_))
  refine h (.ret _) s.heap _ m news F N (Sub.refl _) ?_
  have e2 : V.den kwL = kwC := by rw [den_closed V kw_closed, kw_cps]
  rw [← e2]
  exact .str _ _

theorem orcA_ok (H : KOk K) : ∀ f ds d, orcA f ds = some d → CallOk prog w K pp loose mean mg mb V 899 0 f ds d := by
  intro f ds d h
  unfold orcA at h
  split at h
  · rename_i e
    cases h
    obtain ⟨h1, h2⟩ := Bool.and_eq_true_iff.mp e
    rw [sEq_iff.mp h2]
    cases ds with
    | nil => exact kw_ok H
    | cons => cases h1
  · cases h

theorem evA (O : V.Ok) (H : KOk K) {f : Str} {ds : List D} {d : D} (h : (ev cfgA 60).ca f ds = some d) : CallOk prog w K pp loose mean mg mb V 800 0 f ds d :=
  CallOk.bound (k := 60) (B := 899) ((ev_ok (cfg := cfgA) O H.cfgOk (by decide) H.fn (orcA_ok H) 60).2.2.2 f ds d h) (by decide)

/-- the name and its spelling are one of the three pairs -/
noncomputable def Va.Pair (V : Va) : Prop := (V.nm, V.sp) ∈ pairsN

theorem den_one (V : Va) (c : Nat) : V.den [c] = ⟨(V.one c).toArray⟩ := by unfold Va.den; simp
theorem den_nm (V : Va) : V.den [NM] = ⟨V.nm.toArray⟩ := by rw [den_one]; unfold Va.one; rw [if_pos rfl]
theorem den_sp (V : Va) : V.den [SP] = ⟨V.sp.toArray⟩ := by rw [den_one]; unfold Va.one; rw [if_neg (by decide), if_pos rfl]

theorem id_pair {p : List Nat × List Nat} (h : p ∈ pairsN ++ pairsC) : closed p.1 = true ∧ closed p.2 = true ∧ (ev cfgA 60).ca (Str.ofString "id_text") [.str p.1] = some (.str p.2) := by
  have := List.all_eq_true.mp idA_all p h
  obtain ⟨h1, h3⟩ := Bool.and_eq_true_iff.mp this
  obtain ⟨h1, h2⟩ := Bool.and_eq_true_iff.mp h1
  exact ⟨h1, h2, sameS_of h3⟩

theorem orcB_ok (O : V.Ok) (P : V.Pair) (H : KOk K) : ∀ f ds d, orcB f ds = some d → CallOk prog w K pp loose mean mg mb V 800 0 f ds d := by
  intro f ds d h
  unfold orcB at h
  split at h
  · rename_i e
    rw [sEq_iff.mp e]
    split at h
    · rename_i l
      split at h
      · rename_i l' hl
        cases h
        unfold idL at hl
        split at hl
        · rename_i c
          split at hl
          · rename_i hc
            cases hl
            have hc : c = NM := Nat.eq_of_beq_eq_true hc
            subst hc
            obtain ⟨c1, c2, c3⟩ := id_pair (p := (V.nm, V.sp)) (List.mem_append_left _ P)
            obtain ⟨fa, g1, g2, g3⟩ := evA (prog := prog) (w := w) (K := K) (pp := pp) (loose := loose) (mean := mean) (mg := mg) (mb := mb) O H c3
            refine ⟨fa, g1, g2, fun A h₀ cn cs L a ccd C s m news vs F N hr Q k => ?_⟩
            cases hr with
            | cons r1 r2 =>
              cases r2
              cases r1 with
              | str _ t =>
                have e1 : V.den [NM] = V.den V.nm := by rw [den_nm, den_closed V c1]
                rw [e1]
                refine (g3 A h₀ cn cs L a ccd C s m news _ F N (.cons (.str _ t) .nil)).use fun v h' tk news' F' N' S' r => k v h' tk news' F' N' S' ?_
                cases r with
                | str _ t' =>
                  have e2 : V.den V.sp = V.den [SP] := by rw [den_sp, den_closed V c2]
                  rw [e2]
                  exact .str _ _
          · split at hl
            · rename_i hc
              cases hl
              have hm : ([c], [c]) ∈ pairsC := by
                unfold pairsC
                rcases Bool.or_eq_true_iff.mp hc with hc | hc
                · rcases Bool.or_eq_true_iff.mp hc with hc | hc
                  · rcases Bool.or_eq_true_iff.mp hc with hc | hc
                    · rw [Nat.eq_of_beq_eq_true hc]; simp
                    · rw [Nat.eq_of_beq_eq_true hc]; simp
                  · rw [Nat.eq_of_beq_eq_true hc]; simp
                · rw [Nat.eq_of_beq_eq_true hc]; simp
              exact evA O H (id_pair (List.mem_append_right _ hm)).2.2
            · cases hl
        · cases hl
      · cases h
    · cases h
  · split at h
    · rename_i e
      rw [sEq_iff.mp e]
      unfold numD at h
      split at h
      · cases h
        exact evA O H (sameS_of numA_w)
      · cases h
        exact evA O H (sameS_of numA_0)
      · cases h
    · cases h

theorem evB (O : V.Ok) (P : V.Pair) (H : KOk K) (n : Nat) : ExOk prog w K pp loose mean mg mb V 800 n (ev cfgB n) ∧ TeOk prog w K pp loose mean mg mb V 800 n (ev cfgB n) ∧ StOk prog w K pp loose mean mg mb V 800 n (ev cfgB n) ∧ CaOk prog w K pp loose mean mg mb V 800 n (ev cfgB n) :=
  ev_ok (cfg := cfgB) O H.cfgOk (by decide) H.fn (orcB_ok O P H) n
end


/-! ## _law_rows -/

noncomputable def rowsFn : FnR := fnR (Str.ofString "_law_rows")
noncomputable def idD (c : Nat) : D := .tup [.str [105, 100], .int 0, .str [c]]
noncomputable def vars0 : List (Str × Slot) := [(Str.ofString "width", .val .wid), (Str.ofString "spelled", .val (.str [SP])), (Str.ofString "name", .val (.str [NM]))]
noncomputable def varsA : List (Str × Slot) := (Str.ofString "c", .val (idD 99)) :: (Str.ofString "b", .val (idD 98)) :: (Str.ofString "a", .val (idD 97)) :: vars0
noncomputable def stAt (i : Nat) : Stmt := match rowsFn.body.drop i with
  | s :: _ => s
  | [] => .Pass ⟨0, 0, 0, 0⟩
noncomputable def goV (vars : List (Str × Slot)) (s : Stmt) : List (Str × Slot) := match stmtD (ev cfgB 20) ⟨rowsFn.sc, vars⟩ s with
  | some (.go v) => v
  | _ => []
noncomputable def isGo (vars : List (Str × Slot)) (s : Stmt) : Bool := match stmtD (ev cfgB 20) ⟨rowsFn.sc, vars⟩ s with
  | some (.go _) => true
  | _ => false
theorem goV_of {vars : List (Str × Slot)} {s : Stmt} (h : isGo vars s = true) : stmtD (ev cfgB 20) ⟨rowsFn.sc, vars⟩ s = some (.go (goV vars s)) := by
  unfold isGo at h
  unfold goV
  split at h
  · rename_i v e; rw [e]
  · cases h
noncomputable def lastE : List Expr := match stAt 5 with
  | .Return (some (.List es _)) _ => es
  | _ => []
noncomputable def vars1 : List (Str × Slot) := goV varsA (stAt 1)
noncomputable def vars2 : List (Str × Slot) := goV vars1 (stAt 2)
noncomputable def vars3 : List (Str × Slot) := goV vars2 (stAt 3)
noncomputable def varsZ : List (Str × Slot) := goV vars3 (stAt 4)
theorem go1 : isGo varsA (stAt 1) = true := by decide +kernel
theorem go2 : isGo vars1 (stAt 2) = true := by decide +kernel
theorem go3 : isGo vars2 (stAt 3) = true := by decide +kernel
theorem go4 : isGo vars3 (stAt 4) = true := by decide +kernel
theorem g1 : stmtD (ev cfgB 20) ⟨rowsFn.sc, varsA⟩ (stAt 1) = some (.go vars1) := goV_of go1
theorem g2 : stmtD (ev cfgB 20) ⟨rowsFn.sc, vars1⟩ (stAt 2) = some (.go vars2) := goV_of go2
theorem g3 : stmtD (ev cfgB 20) ⟨rowsFn.sc, vars2⟩ (stAt 3) = some (.go vars3) := goV_of go3
theorem g4 : stmtD (ev cfgB 20) ⟨rowsFn.sc, vars3⟩ (stAt 4) = some (.go varsZ) := goV_of go4
noncomputable def rowsO : Option (List D) := mapEx ((ev cfgB 20).ex ⟨rowsFn.sc, varsZ⟩) lastE
noncomputable def rowsD : List D := match rowsO with
  | some ds => ds
  | none => []
noncomputable def isSomeL (o : Option (List D)) (n : Nat) : Bool := match o with
  | some l => Nat.beq l.length n
  | none => false
theorem rows_some : isSomeL rowsO 28 = true := by decide +kernel
theorem rowsO_eq : rowsO = some rowsD ∧ rowsD.length = 28 := by
  have h := rows_some
  unfold isSomeL at h
  unfold rowsD
  split at h
  · rename_i l e
    rw [e]
    exact ⟨rfl, Nat.eq_of_beq_eq_true h⟩
  · cases h

/-- the element of that comprehension -/
noncomputable def EltOk (elt : Expr) : Prop := ∃ k1 p1 k2 p2 pl k pt, elt = .Tuple [.Constant (.str (Str.ofString "id")) k1 p1, .Constant (.int 0) k2 p2, .Name (Str.ofString "letter") pl] k pt
/-- the shape of the body: its first line is a comprehension over a text of three signs -/
noncomputable def elt0 : Expr := match stAt 0 with
  | .Assign _ (.ListComp e _ _ _) _ => e
  | _ => .Constant .none 0 ⟨0, 0, 0, 0⟩
noncomputable def csc0 : Scope := match stAt 0 with
  | .Assign _ (.ListComp _ _ sc _) _ => sc
  | _ => ⟨.function, [], false, false, []⟩
noncomputable def tgt0 : List Expr := match stAt 0 with
  | .Assign [.Tuple es _ _] _ _ => es
  | _ => []
theorem st0_eq : ∃ k pt px ki pi pc q, stAt 0 = .Assign [.Tuple tgt0 k pt] (.ListComp elt0 [⟨.Name (Str.ofString "letter") px, .Constant (.str (Str.ofString "abc")) ki pi, [], 0⟩] csc0 pc) q := ⟨_, _, _, _, _, _, _, rfl⟩
theorem elt0_eq : EltOk elt0 := ⟨_, _, _, _, _, _, _, rfl⟩
noncomputable def setA (vars : List (Str × Slot)) : Bool := match setAll rowsFn.sc tgt0 [idD 97, idD 98, idD 99] vars with
  | some _ => true
  | none => false
theorem set0 : setAll rowsFn.sc tgt0 [idD 97, idD 98, idD 99] vars0 = some varsA := by
  unfold varsA
  have h : setA vars0 = true := by decide +kernel
  unfold setA at h
  split at h
  · rename_i v e
    obtain ⟨x, px, d, ds, e1, e2, hl, h1⟩ := setAll_cons (e := .Name (Str.ofString "a") _) (es := tgt0.tail) e
    cases e1
    cases e2
    obtain ⟨x, px, d, ds, e1, e2, hl, h2⟩ := setAll_cons (e := .Name (Str.ofString "b") _) (es := tgt0.tail.tail) h1
    cases e1
    cases e2
    obtain ⟨x, px, d, ds, e1, e2, hl, h3⟩ := setAll_cons (e := .Name (Str.ofString "c") _) (es := []) h2
    cases e1
    cases e2
    obtain ⟨_, h4⟩ := setAll_nil h3
    rw [e, h4]
  · cases h

section
variable {prog : Program} {w : World} {K : Frag} {pp : Program} {loose : List Str} {mean : ExcName → Option Value} {mg mb : Str → Option Value} {V : Va} {B n : Nat}
variable {A : Around} {h₀ : Heap} {cn : Str} {cs : Scope} {L a : Addr} {ccd : Value} {s : Shared} {m : Str → Option Value} {nb news : List (Addr × Obj)}

/-- the source of a comprehension is a text of plain signs -/
theorem comp_text {E : Value → Shared → Prop} {env : Env} {elt : Expr} {x : Str} {px : Pos} {scope : Scope} {cl : List (Str × Addr)} {pos : Pos} {Q : Value → Shared → Prop} {t : Str} {ki : Nat} {pi : Pos}
    (hh : A.handled = none) (hclos : closureFor scope env = pure cl) (hcell : ∀ y ∈ scope.names, y.2 ≠ .cell) (hkind : scope.kind = .function)
    (hnames : ∀ y ∈ scope.names, y.2 = .local → scope.names.lookup y.1 = some .local) (hx : scope.names.lookup x = some .local) (ha : t.cps.all (· < 128) = true) (hsz : t.cps.size ≤ sizeLine)
    (F : Fr h₀ L s.heap m) (N : News h₀ L s.heap news)
    (h : ∀ g tk, LCg.CompRest prog w A h₀ L m env elt x scope cl { s with heap := g, toks := tk } (Sub news) (fun i v => SignAt t i v) (LCg.FinE h₀ L m { s with heap := g, toks := tk } Q) t.cps.size 0 [] news) :
    wpAny (model prog w) A (eval (.ListComp elt [⟨.Name x px, .Constant (.str t) ki pi, [], 0⟩] scope pos) env) Q E s := by
  rw [eval_ListComp]
  refine wpAny_comprehension_free (use := none) rfl (fun _ => rfl) hclos hkind hnames (Constant_str (k := ki) (pos := pi) ?_)
  refine wpAny_pyIter_ascii ha ?_
  have up : ∀ (o : Obj) b o', s.heap.get? b = some o' → (s.heap.push o).get? b = some o' := fun o b o' e => Heap.get?_push_of_some _ e
  refine LCg.block_U (Walks.strAscii hh s.heap.objs.size t s.toks) hsz (fun i h st => by obtain ⟨o, e, _⟩ := st; exact ⟨o, e⟩) (S := Sub news) ?_ hcell hkind hx
    ⟨_, Heap.get?_push_size _ rfl, rfl, rfl⟩ (fun b hb => ?_) (F.keeps (up _)) (N.grown (up _)) (Nat.ne_of_lt F.ns.lt) (next_is_new F) (fun p hp => Nat.ne_of_lt (Heap.lt_size (N p hp).1)) (Sub.refl _) (h _ _) ?_
  · intro i h h' o nw st e e' k N' S
    obtain ⟨o', q, r⟩ := st
    rw [e] at q; cases q
    exact ⟨o, e', r⟩
  · rw [List.mem_singleton.mp hb]
    show s.heap.objs.size < (s.heap.push _).objs.size
    rw [Heap.size_push]; exact Nat.lt_succ_self _
  · intro D C h tk m' ys news' F' N' o1 hn hC₀ hD₀ hCL hDL hCD offC fin
    refine ⟨m', hn, fun h'' hs'' => fin D h'' tk (F'.change hs'' hCL hC₀) (fun p hp => ?_) o1⟩
    refine ⟨hs''.extBut _ _ ?_ (N' p hp).1, (N' p hp).2⟩
    rcases List.mem_cons.mp hp with rfl | hp
    · exact Ne.symm hCD
    · exact offC p hp

noncomputable def cscOk (csc : Scope) : Bool := isLoc csc (Str.ofString "letter") && (match csc.kind with | .function => true | _ => false) &&
  csc.names.all (fun p => match p.2 with | .local => (match kindL csc.names p.1 with | some .local => true | _ => false) | .globalImplicit => true | _ => false)

theorem abc_loop {FinP : List Value → List (Addr × Obj) → Prop} {news0 : List (Addr × Obj)} {t : Str} {env : Env} {elt : Expr} {csc : Scope} (he : EltOk elt) (hk : csc.kind = .function) (hfree : ∀ p ∈ csc.names, p.2 ≠ .free) (hx : isLoc csc (Str.ofString "letter") = true) :
    ∀ (rest : List Nat) (i : Nat) (ys : List Value) (done : List Nat) (news1 : List (Addr × Obj)), t.cps.toList.drop i = rest → RL V news1 ys (done.map idD) → closed rest = true → Sub news0 news1 →
      (∀ ys news, RL V news ys ((done ++ rest).map idD) → Sub news0 news → FinP ys news) →
      LCg.CompRest prog w A h₀ L m env elt (Str.ofString "letter") csc [] s (Sub news0) (fun i v => SignAt t i v) FinP rest.length i ys news1
  | [], i, ys, done, news1, hr, hy, hc, hs, fin => LCg.CompRest.zero (fin ys news1 (by simpa using hy) hs)
  | c :: r, i, ys, done, news1, hr, hy, hc, hs, fin => by
    refine LCg.CompRest.succ fun v I oI Cc oC Dd m₂ h tk E' hP hO hm F N off ne => ?_
    obtain ⟨hc1, hc2⟩ := Bool.and_eq_true_iff.mp hc
    obtain ⟨kx1, kx2⟩ := isLoc_of hx
    obtain ⟨c', u, hc', rfl⟩ := hP
    have hci : t.cps.toList[i]? = some c' := by simpa using hc'
    have hlt : i < t.cps.toList.length := (List.getElem?_eq_some_iff.mp hci).1
    have hdr : t.cps.toList.drop i = c' :: t.cps.toList.drop (i + 1) := by
      rw [List.drop_eq_getElem_cons hlt]
      congr 1
      exact (List.getElem?_eq_some_iff.mp hci).2
    rw [hdr] at hr
    cases hr
    have he' := he
    obtain ⟨k1, p1, k2, p2, pl, k, pt, e⟩ := he'
    rw [show eval elt (compEnvC csc [] Cc env) = eval (.Tuple _ _ _) (compEnvC csc [] Cc env) from congrArg (fun z => eval z (compEnvC csc [] Cc env)) e]
    have eN : (compEnvC csc [] Cc env).scope.names = csc.names := relabel_id hfree
    have eK : ∀ z, (compEnvC csc [] Cc env).kindOf z = csc.names.lookup z := fun z => by
      show (compEnvC csc [] Cc env).scope.names.lookup z = _
      rw [eN]
    refine Tuple_ ?_
    show wpAny _ A (spliced ((false, eval (.Constant (.str (Str.ofString "id")) k1 p1) (compEnvC csc [] Cc env)) :: (false, eval (.Constant (.int 0) k2 p2) (compEnvC csc [] Cc env)) :: (false, eval (.Name (Str.ofString "letter") pl) (compEnvC csc [] Cc env)) :: [])) _ _ _
    refine spliced_cons (Constant_str (spliced_cons (wpAny_Constant_int (spliced_cons (wpAny_Name (wpAny_loadName_local hk (by rw [eK]; exact kx1) (hO.ns (N (Cc, oC) (List.mem_cons_of_mem _ List.mem_cons_self)).1) hm (spliced_nil ?_)) kx2)))))
    refine newTuple_N (s := { s with heap := h, toks := tk + 1 + 1 }) F N (fun h2 F2 N2 => ?_) (by rw [sizeLine_eq]; show 3 ≤ 16777216; decide)
    have hI := Heap.lt_size (N _ List.mem_cons_self).1
    have hC := Heap.lt_size (N _ (List.mem_cons_of_mem _ List.mem_cons_self)).1
    have hD := Heap.lt_size (N _ (List.mem_cons_of_mem _ (List.mem_cons_of_mem _ List.mem_cons_self))).1
    have hs2 : Sub news1 ((h.objs.size, tupO [.str (Str.ofString "id") tk, .int 0 (tk + 1), .str ⟨#[c]⟩ u]) :: news1) := Sub.cons _
    refine ⟨h2, _, (h.objs.size, tupO [.str (Str.ofString "id") tk, .int 0 (tk + 1), .str ⟨#[c]⟩ u]) :: news1, rfl, F2, fun p hp => ?_, ⟨⟨Ne.symm (Nat.ne_of_lt hI), Ne.symm (Nat.ne_of_lt hC), Ne.symm (Nat.ne_of_lt hD)⟩, off⟩, hs.trans hs2, ?_⟩
    · rcases List.mem_cons.mp hp with rfl | hp
      · exact N2 _ (List.mem_cons_of_mem _ List.mem_cons_self)
      · rcases List.mem_cons.mp hp with rfl | hp
        · exact N2 _ (List.mem_cons_of_mem _ (List.mem_cons_of_mem _ List.mem_cons_self))
        · rcases List.mem_cons.mp hp with rfl | hp
          · exact N2 _ (List.mem_cons_of_mem _ (List.mem_cons_of_mem _ (List.mem_cons_of_mem _ List.mem_cons_self)))
          · rcases List.mem_cons.mp hp with rfl | hp
            · exact N2 _ List.mem_cons_self
            · exact N2 _ (List.mem_cons_of_mem _ (List.mem_cons_of_mem _ (List.mem_cons_of_mem _ (List.mem_cons_of_mem _ hp))))
    · refine abc_loop he hk hfree hx (t.cps.toList.drop (i + 1)) (i + 1) _ (done ++ [c]) _ rfl ?_ hc2 (hs.trans hs2) ?_
      · rw [List.map_append]
        refine RL.snoc (RL.mono hs2.tups hy) (.tup List.mem_cons_self (.cons ?_ (.cons (.int 0 _) (.cons ?_ .nil))))
        · have e1 : V.den [105, 100] = Str.ofString "id" := by rw [den_closed V (by decide)]; decide +kernel
          rw [← e1]
          exact .str _ _
        · have e1 : V.den [c] = ⟨#[c]⟩ := by rw [den_closed V (by show (Nat.blt c 2000000 && true) = true; rw [hc1]; rfl)]
          rw [← e1]
          exact .str _ _
      · intro ys news hy' hs'
        refine fin ys news ?_ hs'
        rw [List.append_assoc] at hy'
        exact hy'

/-- the first line's shape -/
noncomputable def Line0 (r : FnR) (st0 : Stmt) : Prop := ∃ tgt elt csc k pt px ki pi pc q, st0 = .Assign [.Tuple tgt k pt] (.ListComp elt [⟨.Name (Str.ofString "letter") px, .Constant (.str (Str.ofString "abc")) ki pi, [], 0⟩] csc pc) q ∧
  EltOk elt ∧ cscOk csc = true ∧ setAll r.sc tgt [idD 97, idD 98, idD 99] vars0 = some varsA

theorem st0_ok {r : FnR} {st0 : Stmt} (hl : Line0 r st0) (F : Fr h₀ L s.heap m) (N : News h₀ L s.heap news) (hs : Sub nb news) (Y : Loc V nb m news vars0) (C : Cx K pp loose mean mg mb B A h₀ cn r.sc L a ccd n) :
    Runs (model prog w) A h₀ L V nb news s (exec st0 (envOf cn r.sc L a ccd)) (.go varsA) := by
  obtain ⟨tgt, elt, csc, k, pt, px, ki, pi, pc, q, e, he, hok, hset⟩ := hl
  rw [e]
  intro Q h
  unfold cscOk at hok
  obtain ⟨hok, h3⟩ := Bool.and_eq_true_iff.mp hok
  obtain ⟨h1, h2⟩ := Bool.and_eq_true_iff.mp hok
  have hkind : csc.kind = .function := by
    split at h2
    · assumption
    · cases h2
  have all := List.all_eq_true.mp h3
  have hfree : ∀ p ∈ csc.names, p.2 ≠ .free := fun p hp e => by have z := all p hp; rw [e] at z; cases z
  have hcell : ∀ p ∈ csc.names, p.2 ≠ .cell := fun p hp e => by have z := all p hp; rw [e] at z; cases z
  have hnames : ∀ p ∈ csc.names, p.2 = .local → csc.names.lookup p.1 = some .local := fun p hp e => by
    have z := all p hp
    rw [e] at z
    rw [kindL_eq]
    dsimp only at z
    split at z
    · assumption
    · cases z
  have ecps : (Str.ofString "abc").cps.toList = [97, 98, 99] := nEq_iff.mp (by decide +kernel)
  have esz : (Str.ofString "abc").cps.size = [97, 98, 99].length := by rw [← ecps]; simp
  refine Assign_Tuple (comp_text (h₀ := h₀) (L := L) (m := m) (news := news) C.hh (clos_nil hfree) hcell hkind hnames (isLoc_of h1).1 (by decide +kernel) (by rw [esz, sizeLine_eq]; decide) F N fun g tk => ?_)
  rw [esz]
  refine abc_loop (V := V) he hkind hfree h1 [97, 98, 99] 0 [] [] news ecps .nil (by decide) (Sub.refl _) fun ys news2 hy hs2 => ?_
  intro Dd h2 tk2 F2 N2 _
  have hy : RL V news2 ys [idD 97, idD 98, idD 99] := hy
  obtain ⟨k1, k2⟩ := set_each (env := envOf cn r.sc L a ccd) tgt hset
  refine kun_list (s := { s with heap := h2, toks := tk2 }) (items := ys.toArray) F2 N2 ⟨_, N2.get List.mem_cons_self, rfl, _, rfl⟩ C.hh (by rw [k1, List.size_toArray, hy.length]) k2 fun h3 F3 N3 => ?_
  have S3 : Sub news ((Dd, LCg.lst ys) :: news2) := hs2.trans (Sub.cons _)
  refine set_all (ρ := ⟨r.sc, vars0⟩) C tgt (s := { s with heap := h3, toks := tk2 }) (nb := nb) hset (by simpa using hy.mono (Sub.cons _).tups) F3 N3 (Y.mono S3) fun h4 tk4 m4 F4 N4 Y4 => ?_
  exact h _ h4 tk4 m4 _ F4 N4 (hs.trans S3) S3.tups Y4

/-- the whole body -/
structure Pack (r : FnR) (st0 st1 st2 st3 st4 : Stmt) (es : List Expr) : Prop where
  body : ∃ ql q, r.body = [st0, st1, st2, st3, st4, .Return (some (.List es ql)) q]
  s0 : Line0 r st0
  s1 : stmtD (ev cfgB 20) ⟨r.sc, varsA⟩ st1 = some (.go vars1)
  s2 : stmtD (ev cfgB 20) ⟨r.sc, vars1⟩ st2 = some (.go vars2)
  s3 : stmtD (ev cfgB 20) ⟨r.sc, vars2⟩ st3 = some (.go vars3)
  s4 : stmtD (ev cfgB 20) ⟨r.sc, vars3⟩ st4 = some (.go varsZ)
  es : mapEx ((ev cfgB 20).ex ⟨r.sc, varsZ⟩) es = some rowsD
  params : bindD r [.str [NM], .str [SP], .wid] = some vars0

/-- one line of the middle -/
theorem mid_ok (O : V.Ok) (P : V.Pair) (H : KOk K) {r : FnR} {st : Stmt} {rest : List Stmt} {vars vars' : List (Str × Slot)} (hg : stmtD (ev cfgB 20) ⟨r.sc, vars⟩ st = some (.go vars')) (F : Fr h₀ L s.heap m) (N : News h₀ L s.heap news) (hs : Sub nb news) (Y : Loc V nb m news vars) (C : Cx K pp loose mean mg mb 800 A h₀ cn r.sc L a ccd 20) {Q : Flow → Shared → Prop} {E : Value → Shared → Prop}
    (h : ∀ h' tk m' news', Fr h₀ L h' m' → News h₀ L h' news' → Sub nb news' → Loc V nb m' news' vars' → wpAny (model prog w) A (execs rest (envOf cn r.sc L a ccd)) Q E { s with heap := h', toks := tk }) :
    wpAny (model prog w) A (execs (st :: rest) (envOf cn r.sc L a ccd)) Q E s := by
  obtain ⟨I, T, J, _⟩ := evB (prog := prog) (w := w) (K := K) (pp := pp) (loose := loose) (mean := mean) (mg := mg) (mb := mb) O P H 20
  refine wpAny_execs_cons ((stmt_ok (ρ := ⟨r.sc, vars⟩) (cfg := cfgB) H.cfgOk I T J hg C F N hs Y).use fun f h' tk m' news' F' N' S' T' k => ?_)
  obtain ⟨rfl, Y'⟩ := out_go k
  exact h h' tk m' news' F' N' S' Y'

theorem rows_gen (O : V.Ok) (P : V.Pair) (H : KOk K) {f : Str} {r : FnR} {st0 st1 st2 st3 st4 : Stmt} {es : List Expr} (hr : FnOk K f r) (X : Pack r st0 st1 st2 st3 st4 es) :
    ∃ fa, nsIn K mainGlobals f = some (some (.ref fa)) ∧ keepIn K (.ref fa) = true ∧ ∀ A h₀ cn cs L a ccd, Cx K pp loose mean mg mb 800 A h₀ cn cs L a ccd 21 → ∀ s m news vs, Fr h₀ L s.heap m → News h₀ L s.heap news → RL V news vs [.str [NM], .str [SP], .wid] →
      Gives (model prog w) A h₀ L m news s (call (.ref fa) vs) (fun news' v => ∃ ad us, v = .ref ad ∧ (ad, lstO us 0) ∈ news' ∧ RL V news' us rowsD) := by
  refine call_body (B := 800) (n := 20) (by decide) hr X.params fun A h₀ cn L a ccd C s m news F N Y Q h => ?_
  obtain ⟨ql, q, e⟩ := X.body
  rw [e]
  refine wpAny_execs_cons ((st0_ok X.s0 F N (Sub.refl _) Y C).use fun f h1 tk1 m1 news1 F1 N1 S1 T1 k => ?_)
  obtain ⟨rfl, Y1⟩ := out_go k
  refine mid_ok (s := { s with heap := h1, toks := tk1 }) O P H X.s1 F1 N1 S1 Y1 C fun h2 tk2 m2 news2 F2 N2 S2 Y2 => ?_
  refine mid_ok (s := { s with heap := h2, toks := tk2 }) O P H X.s2 F2 N2 S2 Y2 C fun h3 tk3 m3 news3 F3 N3 S3 Y3 => ?_
  refine mid_ok (s := { s with heap := h3, toks := tk3 }) O P H X.s3 F3 N3 S3 Y3 C fun h4 tk4 m4 news4 F4 N4 S4 Y4 => ?_
  refine mid_ok (s := { s with heap := h4, toks := tk4 }) O P H X.s4 F4 N4 S4 Y4 C fun h5 tk5 m5 news5 F5 N5 S5 Y5 => ?_
  obtain ⟨I, T, J, _⟩ := evB (prog := prog) (w := w) (K := K) (pp := pp) (loose := loose) (mean := mean) (mg := mg) (mb := mb) O P H 20
  refine wpAny_execs_cons (wpAny_Return_some (List_ ((ex_args (s := { s with heap := h5, toks := tk5 }) I (ρ := ⟨r.sc, varsZ⟩) C X.es F5 N5 Y5).use fun vs h6 tk6 news6 F6 N6 S6 r => ?_)))
  refine newList_N (s := { s with heap := h6, toks := tk6 }) F6 N6 (fun h7 F7 N7 => ?_) (by rw [r.length, rowsO_eq.2, sizeLine_eq]; decide)
  exact h (.ret _) h7 tk6 m5 _ F7 N7 ((S5.trans S6).trans (Sub.cons _)) ⟨_, vs, rfl, List.mem_cons_self, r.mono (Sub.cons _).tups⟩

theorem csc0_ok : cscOk csc0 = true := by decide +kernel
theorem rows_params : bindD rowsFn [.str [NM], .str [SP], .wid] = some vars0 := by
  have h : ∃ x y z, rowsFn.params = [x, y, z] ∧ x = Str.ofString "name" ∧ y = Str.ofString "spelled" ∧ z = Str.ofString "width" := ⟨_, _, _, rfl, rfl, rfl, rfl⟩
  obtain ⟨x, y, z, e, rfl, rfl, rfl⟩ := h
  unfold bindD
  rw [e]
  rfl
theorem pack0 : Pack rowsFn (stAt 0) (stAt 1) (stAt 2) (stAt 3) (stAt 4) lastE where
  body := ⟨_, _, rfl⟩
  s0 := by
    obtain ⟨k, pt, px, ki, pi, pc, q, e⟩ := st0_eq
    exact ⟨tgt0, elt0, csc0, k, pt, px, ki, pi, pc, q, e, elt0_eq, csc0_ok, set0⟩
  s1 := g1
  s2 := g2
  s3 := g3
  s4 := g4
  es := rowsO_eq.1
  params := rows_params

/-- what the call hands back: a new list of the 28 rows -/
theorem rows_ok (O : V.Ok) (P : V.Pair) (H : KOk K) :
    ∃ fa, nsIn K mainGlobals (Str.ofString "_law_rows") = some (some (.ref fa)) ∧ keepIn K (.ref fa) = true ∧ ∀ A h₀ cn cs L a ccd, Cx K pp loose mean mg mb 800 A h₀ cn cs L a ccd 21 → ∀ s m news vs, Fr h₀ L s.heap m → News h₀ L s.heap news → RL V news vs [.str [NM], .str [SP], .wid] →
      Gives (model prog w) A h₀ L m news s (call (.ref fa) vs) (fun news' v => ∃ ad us, v = .ref ad ∧ (ad, lstO us 0) ∈ news' ∧ RL V news' us rowsD) := by
  have hr : FnOk K (Str.ofString "_law_rows") rowsFn := by
    unfold rowsFn
    exact H.tab (Str.ofString "_law_rows") (inL_mem (by decide +kernel))
  exact rows_gen O P H hr pack0

end


/-! ## law: the loop over three rows -/

noncomputable def lawFn : FnR := fnR (Str.ofString "law")
noncomputable def lawTail : List Stmt := lawFn.body.drop 2
noncomputable def lawBody : List Stmt := match lawTail with
  | _ :: .For _ _ b _ _ :: _ => b
  | _ => []
noncomputable def lawRest : List Stmt := lawBody.drop 1
noncomputable def lawTgt : List Expr := match lawBody with
  | .Assign [.Tuple es _ _] _ _ :: _ => es
  | _ => []

noncomputable abbrev bCells : Str := Str.ofString "cells"
noncomputable abbrev bRows : Str := Str.ofString "rows"
noncomputable abbrev bStep : Str := Str.ofString "step"
noncomputable def base0 (X Y : List D) : List (Str × Slot) := [(bCells, .lst Y), (bRows, .lst X)]
noncomputable def base2 (item due : D) (X Y : List D) : List (Str × Slot) := (Str.ofString "due", .val due) :: (Str.ofString "item", .val item) :: base0 X Y
noncomputable def itemJ (j : Nat) : D := match getD? rowsD j with
  | some (.tup [i, _]) => i
  | _ => .none
noncomputable def dueJ (j : Nat) : D := match getD? rowsD j with
  | some (.tup [_, d]) => d
  | _ => .none
noncomputable def rowOk (j : Nat) : Bool := match getD? rowsD j with
  | some (.tup [_, _]) => true
  | _ => false
noncomputable def toldJ (j : Nat) : D := match (ev cfgB 60).st ⟨lawFn.sc, base2 (itemJ j) (dueJ j) [] []⟩ lawRest with
  | some (.go ((_, .val t) :: _)) => t
  | _ => .none
theorem rows_shape : ((List.range 28).all rowOk) = true := by decide +kernel
theorem turns (X Y : List D) : (List.range 28).map (fun j => (ev cfgB 60).st ⟨lawFn.sc, base2 (itemJ j) (dueJ j) X Y⟩ lawRest) =
    (List.range 28).map (fun j => some (Out.go ((Str.ofString "told", .val (toldJ j)) :: base2 (itemJ j) (dueJ j) X Y))) := by kernel_rfl
theorem row_at {j : Nat} (h : j < 28) : getD? rowsD j = some (.tup [itemJ j, dueJ j]) := by
  have k := List.all_eq_true.mp rows_shape j (List.mem_range.mpr h)
  unfold rowOk at k
  unfold itemJ dueJ
  split at k
  · rename_i e; rw [e]
  · cases k
theorem turn_at {j : Nat} (h : j < 28) (X Y : List D) : (ev cfgB 60).st ⟨lawFn.sc, base2 (itemJ j) (dueJ j) X Y⟩ lawRest = some (Out.go ((Str.ofString "told", .val (toldJ j)) :: base2 (itemJ j) (dueJ j) X Y)) := by
  have k := congrArg (fun l => l[j]?) (turns X Y)
  simpa [List.getElem?_map, List.getElem?_range h] using k


/-! ## law's own lines, their places left open -/

/-- «item, due = rows[(cells[0] + 9 * step) % len(rows)]» -/
noncomputable def LineU (tgt : List Expr) (st : Stmt) : Prop := ∃ k t1 u1 k0 u2 u3 u4 k9 u5 u6 u7 u8 u9 u10 u11 u12 u13 t2, st = .Assign [.Tuple tgt k t1] (.Subscript (.Name bRows u1) (.BinOp (.BinOp (.Subscript (.Name bCells u2) (.Constant (.int 0) k0 u3) u4) .Add (.BinOp (.Constant (.int 9) k9 u5) .Mult (.Name bStep u6) u7) u8) .Mod (.Call (.Name (Str.ofString "len") u9) [.Name bRows u10] [] u11) u12) u13) t2
/-- «rows = _law_rows(name, spelled, cells[2] % 64)» -/
noncomputable def LineR (st : Stmt) : Prop := ∃ p1 p2 p3 p4 p5 k2 p6 p7 k64 p8 p9 p10 p11, st = .Assign [.Name bRows p1] (.Call (.Name (Str.ofString "_law_rows") p2) [.Name (Str.ofString "name") p3, .Name (Str.ofString "spelled") p4, .BinOp (.Subscript (.Name bCells p5) (.Constant (.int 2) k2 p6) p7) .Mod (.Constant (.int 64) k64 p8) p9] [] p10) p11
/-- «for step in range(3): body» -/
noncomputable def LineF (body : List Stmt) (st : Stmt) : Prop := ∃ q1 q2 k q3 q4 q5, st = .For (.Name bStep q1) (.Call (.Name (Str.ofString "range") q2) [.Constant (.int 3) k q3] [] q4) body [] q5

structure LawPack (sc : Scope) (tail : List Stmt) (tgt : List Expr) (rest : List Stmt) : Prop where
  tail : ∃ stR stU stF k r1 r2, tail = [stR, stF, .Return (some (.Constant (.bool true) k r1)) r2] ∧ LineR stR ∧ LineU tgt stU ∧ LineF (stU :: rest) stF
  set : ∀ a b vars, setAll sc tgt [a, b] vars = some ((Str.ofString "due", .val b) :: (Str.ofString "item", .val a) :: vars)
  loc : isLoc sc bRows = true ∧ isLoc sc bCells = true ∧ isLoc sc bStep = true ∧ isLoc sc (Str.ofString "name") = true ∧ isLoc sc (Str.ofString "spelled") = true
  glo : isGlo sc (Str.ofString "_law_rows") = true ∧ isGlo sc (Str.ofString "range") = true ∧ isGlo sc (Str.ofString "len") = true
  kind : sc.kind = .function
  turn : ∀ (X Y : List D) (j : Nat), j < 28 → (ev cfgB 60).st ⟨sc, base2 (itemJ j) (dueJ j) X Y⟩ rest = some (Out.go ((Str.ofString "told", .val (toldJ j)) :: base2 (itemJ j) (dueJ j) X Y))

theorem vget_hit {x y : Str} {sl : Slot} {r : List (Str × Slot)} (h : sEq x y = true) : vget ((y, sl) :: r) x = some sl := by
  show (match sEq x y with | true => some sl | false => vget r x) = _
  rw [h]
theorem vget_skip {x y : Str} {sl : Slot} {r : List (Str × Slot)} (h : sEq x y = false) : vget ((y, sl) :: r) x = vget r x := by
  show (match sEq x y with | true => some sl | false => vget r x) = _
  rw [h]

section
variable {prog : Program} {w : World} {K : Frag} {pp : Program} {loose : List Str} {mean : ExcName → Option Value} {mg mb : Str → Option Value} {V : Va} {B n : Nat}
variable {A : Around} {h₀ : Heap} {cn : Str} {sc : Scope} {L a : Addr} {ccd : Value} {s : Shared} {m : Str → Option Value} {nb news : List (Addr × Obj)}

theorem vget_two {X Y : List D} {x : Str} (hx : x = bCells ∨ x = bRows) : ∀ {pre : List (Str × Slot)}, (∀ p ∈ pre, sEq bCells p.1 = false ∧ sEq bRows p.1 = false) → vget (pre ++ base0 X Y) x = vget (base0 X Y) x
  | [], _ => rfl
  | (y, sl) :: r, hc => by
    have hp := hc _ List.mem_cons_self
    rw [List.cons_append, vget_skip (by rcases hx with rfl | rfl; exact hp.1; exact hp.2)]
    exact vget_two hx fun q hq => hc q (List.mem_cons_of_mem _ hq)

/-- of what is known of more names, what is known of the two -/
theorem loc_two {X Y : List D} {pre : List (Str × Slot)} (hc : ∀ p ∈ pre, sEq bCells p.1 = false ∧ sEq bRows p.1 = false) (h : Loc V nb m news (pre ++ base0 X Y)) : Loc V nb m news (base0 X Y) := by
  intro x sl e
  have hx : x = bCells ∨ x = bRows := by
    unfold base0 vget at e
    split at e
    · rename_i q; exact .inl (sEq_iff.mp q)
    · unfold vget at e
      split at e
      · rename_i q; exact .inr (sEq_iff.mp q)
      · unfold vget at e; cases e
  exact h x sl (by rw [vget_two hx hc]; exact e)

theorem get_cells (X Y : List D) : vget (base0 X Y) bCells = some (.lst Y) := vget_hit (sEq_iff.mpr rfl)
theorem rows_cells : sEq bRows bCells = false := by decide +kernel
theorem get_rows (X Y : List D) : vget (base0 X Y) bRows = some (.lst X) := (vget_skip rows_cells).trans (vget_hit (sEq_iff.mpr rfl))
theorem step_off : sEq bCells bStep = false ∧ sEq bRows bStep = false := by decide +kernel
theorem tdi_off (t d i : D) : ∀ p ∈ [(Str.ofString "told", Slot.val t), (Str.ofString "due", Slot.val d), (Str.ofString "item", Slot.val i)], sEq bCells p.1 = false ∧ sEq bRows p.1 = false := by
  have key : (sEq bCells (Str.ofString "told") = false ∧ sEq bRows (Str.ofString "told") = false) ∧ (sEq bCells (Str.ofString "due") = false ∧ sEq bRows (Str.ofString "due") = false) ∧ (sEq bCells (Str.ofString "item") = false ∧ sEq bRows (Str.ofString "item") = false) := by decide +kernel
  intro p hp
  rcases List.mem_cons.mp hp with rfl | hp
  · exact key.1
  · rcases List.mem_cons.mp hp with rfl | hp
    · exact key.2.1
    · rw [List.mem_singleton.mp hp]; exact key.2.2

/-- a list's place -/
theorem lst_item {i : Expr} {x : Str} {px : Pos} {ad : Addr} {us : List Value} {k : Nat} {z : Int} {t : Tok} {v : Value} {Q : Value → Shared → Prop} {E : Value → Shared → Prop} (N : News h₀ L s.heap news) (hm : (ad, lstO us k) ∈ news) (hs : isSlice i = false) (h0 : 0 ≤ z) (hz : z < 1000) (hv : us[z.toNat]? = some v) (h : Q v s) :
    wpAny (model prog w) A (subscriptTail (.Name x px) i (.ref ad) (.int z t)) Q E s :=
  item_listL ⟨_, N.get hm, rfl, k, rfl⟩ h0 (Int.lt_trans hz (by decide)) hv h (sub_plain hs _ _) (fun _ => rfl)

/-- one turn -/
theorem law_turn (O : V.Ok) (P : V.Pair) (H : KOk K) {stU : Stmt} {tgt : List Expr} {rest tail : List Stmt} (X : LawPack sc tail tgt rest) (hU : LineU tgt stU) {xs : List Int} (hx : 1 ≤ xs.length) {i : Nat} {t : Tok} (hst : m bStep = some (.int (0 + (i : Int)) t))
    (C : Cx K pp loose mean mg mb 800 A h₀ cn sc L a ccd 60) (F : Fr h₀ L s.heap m) (N : News h₀ L s.heap news) (hs : Sub nb news) (Y : Loc V nb m news (base0 rowsD (xs.map D.int))) :
    Runs (model prog w) A h₀ L V nb news s (execs (stU :: rest) (envOf cn sc L a ccd)) (.go (base0 rowsD (xs.map D.int))) := by
  obtain ⟨k, t1, u1, k0, u2, u3, u4, k9, u5, u6, u7, u8, u9, u10, u11, u12, u13, t2, e⟩ := hU
  subst e
  intro Q h
  obtain ⟨l1, l2, l3, _, _⟩ := X.loc
  obtain ⟨_, _, gl⟩ := X.glo
  obtain ⟨gl1, gl2⟩ := isGlo_of gl
  obtain ⟨ls1, ls2⟩ := isLoc_of l3
  obtain ⟨ar, us, kr, r1, r2, r3, r4, r5⟩ := loc_lst (prog := prog) (w := w) (ρ := ⟨sc, base0 rowsD (xs.map D.int)⟩) l1 (get_rows _ _) u1 C F Y
  obtain ⟨ac, ws, kc, c1, c2, c3, c4, c5⟩ := loc_lst (prog := prog) (w := w) (ρ := ⟨sc, base0 rowsD (xs.map D.int)⟩) l2 (get_cells _ _) u2 C F Y
  obtain ⟨k1, k2⟩ := isLoc_of l1
  have hul : us.length = 28 := by rw [r2.length]; exact rowsO_eq.2
  have hx0 : (xs.map D.int)[0]? = some (.int (xs.headD 0)) := by
    cases xs with
    | nil => simp at hx
    | cons x r => rfl
  obtain ⟨v0, hv0, rv0⟩ := c2.get hx0
  refine wpAny_execs_cons (Assign_Tuple (PyProof.Rows.Subscript_ (r5 ?_)))
  refine wpAny_BinOp (wpAny_BinOp (PyProof.Rows.Subscript_ (c5 (wpAny_Constant_int ?_))))
  refine lst_item (s := { s with toks := s.toks + 1 }) N c1 rfl (by decide) (by decide) hv0 ?_
  cases rv0 with
  | int _ t0 =>
    refine wpAny_BinOp (wpAny_Constant_int (ld (s := { s with toks := s.toks + 1 + 1 }) F hst ?_ X.kind ls1 ls2))
    refine PyProof.Rows.mul_int (add_int ?_) (IntMulOk.of_left (intBits_le_64 (by decide) (by decide)))
    refine Call_ (name_B F C.kin (topRead_of C.top) H.len rfl (by decide) (PyProof.Rows.callWith_builtin1 ?_ rfl rfl) C.kind gl1 gl2)
    show wpAny _ A (spliced ((false, eval (.Name bRows u10) (envOf cn sc L a ccd)) :: [])) _ _ _
    refine spliced_cons (ld F r4 (spliced_nil ?_) X.kind k1 k2)
    refine len_list ⟨_, N.get r1, rfl, kr, rfl⟩ (by rw [List.size_toArray, hul]; decide) ?_
    have e28 : (us.toArray.size : Int) = 28 := by rw [List.size_toArray, hul]; rfl
    rw [e28]
    refine mod_int' (by decide) ?_
    generalize hz : (xs.headD 0 + 9 * (0 + (i : Int))).fmod 28 = z
    have z0 : 0 ≤ z := by rw [← hz]; exact Int.fmod_nonneg_of_pos _ (by decide)
    have z1 : z < 28 := by rw [← hz]; exact Int.fmod_lt_of_pos _ (by decide)
    have hj : z.toNat < 28 := by omega
    have hrow := row_at hj
    rw [getD_eq] at hrow
    obtain ⟨v, hv, rv⟩ := r2.get hrow
    refine lst_item N r1 rfl z0 (by omega) hv ?_
    cases rv with
    | tup hm hr =>
      obtain ⟨q1, q2⟩ := set_each (env := envOf cn sc L a ccd) tgt (X.set (itemJ z.toNat) (dueJ z.toNat) (base0 rowsD (xs.map D.int)))
      refine unpackN_ F N (News.isTup N hm) C.hh (by rw [q1, List.size_toArray, hr.length]) q2 fun h2 F2 N2 => ?_
      refine set_all (ρ := ⟨sc, base0 rowsD (xs.map D.int)⟩) C tgt (nb := nb) (X.set _ _ _) (by simpa using hr) F2 N2 Y fun h3 tk3 m3 F3 N3 Y3 => ?_
      obtain ⟨_, _, J, _⟩ := evB (prog := prog) (w := w) (K := K) (pp := pp) (loose := loose) (mean := mean) (mg := mg) (mb := mb) O P H 60
      refine (J ⟨sc, base2 (itemJ z.toNat) (dueJ z.toNat) rowsD (xs.map D.int)⟩ rest _ (X.turn _ _ _ hj) A h₀ cn L a ccd C { s with heap := h3, toks := tk3 } m3 nb news F3 N3 hs Y3).use fun f h4 tk4 m4 news4 F4 N4 S4 T4 o => ?_
      obtain ⟨rfl, Y4⟩ := out_go o
      exact h _ h4 tk4 m4 news4 F4 N4 S4 T4 (loc_two (pre := [_, _, _]) (tdi_off _ _ _) Y4)

theorem law_loop (O : V.Ok) (P : V.Pair) (H : KOk K) {stU : Stmt} {tgt : List Expr} {rest tail : List Stmt} (X : LawPack sc tail tgt rest) (hU : LineU tgt stU) {xs : List Int} (hx : 1 ≤ xs.length) {I : Addr} {tot : Nat} {Q : Flow → Shared → Prop} {E : Value → Shared → Prop}
    (C : Cx K pp loose mean mg mb 800 A h₀ cn sc L a ccd 60)
    (h : ∀ h' tk m' news', Fr h₀ L h' m' → News h₀ L h' news' → Q .next { s with heap := h', toks := tk }) :
    ∀ (k i : Nat) (m : Str → Option Value) (news : List (Addr × Obj)), (∀ p ∈ news, p.1 ≠ I) → Loc V [] m news (base0 rowsD (xs.map D.int)) →
      RangeRest prog w A E h₀ (envOf cn sc L a ccd) bStep (stU :: rest) Q s I 0 tot k i m news
  | 0, i, m, news, off, Y => RangeRest.zero fun h' tk F N => h h' tk m news F N
  | k + 1, i, m, news, off, Y => by
    refine RangeRest.succ fun t h' tk F N => ?_
    have Y1 := loc_with (it := itR (0 + ((i + 1 : Nat) : Int)) ((tot : Int) - ((i + 1 : Nat) : Int))) off Y
    have Y2 : Loc V [(I, itR (0 + ((i + 1 : Nat) : Int)) ((tot : Int) - ((i + 1 : Nat) : Int)))] (fun y => if y = bStep then some (.int (0 + (i : Int)) t) else m y) ((I, itR (0 + ((i + 1 : Nat) : Int)) ((tot : Int) - ((i + 1 : Nat) : Int))) :: news) (base0 rowsD (xs.map D.int)) := by
      refine loc_two (pre := [(bStep, .val (.int (0 + (i : Int))))]) (fun p hp => ?_) (Y1.set (x := bStep) (v := .int (0 + (i : Int)) t) (sl := .val (.int (0 + (i : Int)))) (R.int _ _))
      rw [List.mem_singleton.mp hp]
      exact step_off
    refine (law_turn (s := { s with heap := h', toks := tk }) O P H X hU hx (i := i) (t := t) (if_pos rfl) C F N (fun p hp => ?_) Y2).use fun f h2 tk2 m2 news2 F2 N2 S2 T2 o => ?_
    · rw [List.mem_singleton.mp hp]; exact List.mem_cons_self
    · obtain ⟨rfl, Y3⟩ := out_go o
      have hm := S2 _ List.mem_cons_self
      have off' : ∀ {l : List (Addr × Obj)}, (∀ p ∈ l.filter (neB I), p.1 ≠ I) := fun p hp => neB_iff.mp (List.mem_filter.mp hp).2
      have hc : (itR (0 + ((i + 1 : Nat) : Int)) ((tot : Int) - ((i + 1 : Nat) : Int))).cls ≠ .type "tuple" := by
        show Value.type "range_iterator" ≠ .type "tuple"; decide
      show UnrEnd _ _ _ _ _ _ _
      refine UnrEnd.intro (s₁ := { s with heap := h', toks := tk }) F2 N2 (news2.filter (neB I)) (fun p hp => ?_) off' ?_
      · rcases List.mem_cons.mp hp with rfl | hp
        · exact hm
        · exact (List.mem_filter.mp hp).1
      · exact law_loop O P H X hU hx C h k (i + 1) m2 _ off' (loc_but (s := { s with heap := h2 }) N2 hm hc Y3)

theorem RL.ints : ∀ {vs : List Value} {xs : List Int}, IntsAre vs xs → RL V news vs (xs.map D.int)
  | _, _, .nil => .nil
  | _, _, .cons n t h => .cons (.int n t) (RL.ints h)

/-- rows, the loop, the answer -/
theorem law_gen (O : V.Ok) (P : V.Pair) (H : KOk K) {tgt : List Expr} {rest tail : List Stmt} (X : LawPack sc tail tgt rest) {xs ys : List Int} {t1 t2 : Tok} {ws : List Value} {ac : Addr} {kc : Nat}
    (C : Cx K pp loose mean mg mb 700 A h₀ cn sc L a ccd 100) (F : Fr h₀ L s.heap m) (N : News h₀ L s.heap news) (hx : xs = ys ++ [0, 0, 0]) (hw : V.wid = (xs.getD 2 0).fmod 64)
    (m1 : m (Str.ofString "name") = some (.str (V.den [NM]) t1)) (m2 : m (Str.ofString "spelled") = some (.str (V.den [SP]) t2)) (m3 : m bCells = some (.ref ac)) (hm : (ac, lstO ws kc) ∈ news) (hI : IntsAre ws xs) {Q : Flow → Shared → Prop}
    (h : ∀ h' tk m' news', Fr h₀ L h' m' → News h₀ L h' news' → Q (.ret (.bool true)) { s with heap := h', toks := tk }) :
    wpAny (model prog w) A (execs tail (envOf cn sc L a ccd)) Q Fa s := by
  have C800 : Cx K pp loose mean mg mb 800 A h₀ cn sc L a ccd 100 := ⟨C.below, C.kin, C.top, C.kind, C.hh, Nat.le_trans C.dep (by decide)⟩
  obtain ⟨stR, stU, stF, kt, rr1, rr2, e, eR, eU, eF⟩ := X.tail
  subst e
  obtain ⟨p1, p2, p3, p4, p5, k2, p6, p7, k64, p8, p9, p10, p11, e⟩ := eR
  subst e
  obtain ⟨q1, q2, k3, q3, q4, q5, e⟩ := eF
  subst e
  obtain ⟨l1, l2, l3, l4, l5⟩ := X.loc
  obtain ⟨g1, g2, g3⟩ := X.glo
  obtain ⟨ln1, ln2⟩ := isLoc_of l4
  obtain ⟨ls1, ls2⟩ := isLoc_of l5
  obtain ⟨lc1, lc2⟩ := isLoc_of l2
  obtain ⟨lr1, lr2⟩ := isLoc_of l1
  obtain ⟨lt1, lt2⟩ := isLoc_of l3
  obtain ⟨gr1, gr2⟩ := isGlo_of g1
  obtain ⟨gn1, gn2⟩ := isGlo_of g2
  obtain ⟨fa, f1, f2, f3⟩ := rows_ok (prog := prog) (w := w) (K := K) (pp := pp) (loose := loose) (mean := mean) (mg := mg) (mb := mb) O P H
  have rl : RL V news ws (xs.map D.int) := RL.ints hI
  have hx1 : 3 ≤ xs.length := by rw [hx, List.length_append]; simp
  have hx2 : (xs.map D.int)[2]? = some (.int (xs.getD 2 0)) := by
    have : 2 < xs.length := by omega
    simp [List.getD, this]
  obtain ⟨v2, hv2, rv2⟩ := rl.get hx2
  refine wpAny_execs_cons (wpAny_Assign_Name ?_ rfl)
  refine Call_ (name_K F C.kin (topRead_of C.top) f1 (callWith_K (h₀ := h₀) C.kin f2 ?_ rfl rfl) X.kind gr1 gr2)
  show wpAny _ A (spliced ((false, eval (.Name (Str.ofString "name") p3) (envOf cn sc L a ccd)) :: (false, eval (.Name (Str.ofString "spelled") p4) (envOf cn sc L a ccd)) :: (false, eval (.BinOp (.Subscript (.Name bCells p5) (.Constant (.int 2) k2 p6) p7) .Mod (.Constant (.int 64) k64 p8) p9) (envOf cn sc L a ccd)) :: [])) _ _ _
  refine spliced_cons (ld F m1 (spliced_cons (ld F m2 (spliced_cons ?_) X.kind ls1 ls2)) X.kind ln1 ln2)
  refine wpAny_BinOp (PyProof.Rows.Subscript_ (ld F m3 (wpAny_Constant_int ?_) X.kind lc1 lc2))
  refine lst_item N hm rfl (by decide) (by decide) hv2 ?_
  cases rv2 with
  | int _ t0 =>
    refine wpAny_Constant_int (mod_int' (by decide) (spliced_nil ⟨C.kin.keeps F.keep, ?_⟩))
    rw [← hw]
    show wpAny _ A (call (.ref fa) [_, _, _]) _ _ _
    refine (f3 A h₀ cn sc L a ccd (C800.le (by decide)) { s with toks := s.toks + 1 + 1 + 1 } m news _ F N (.cons (.str _ t1) (.cons (.str _ t2) (.cons (.wid _) .nil)))).use fun v h1 tk1 news1 F1 N1 S1 hv => ?_
    obtain ⟨ad, us, rfl, hm1, hr1⟩ := hv
    refine stN F1 N1 (fun h2 F2 N2 => ?_) X.kind lr1
    have Y : Loc V [] (fun y => if y = bRows then some (.ref ad) else m y) news1 (base0 rowsD (xs.map D.int)) := by
      intro x sl ex
      unfold base0 at ex
      by_cases hxc : sEq x bCells = true
      · rw [vget_hit hxc] at ex
        cases ex
        have hxc := sEq_iff.mp hxc
        subst hxc
        refine ⟨.ref ac, ?_, ac, ws, kc, rfl, S1 _ hm, rl.mono S1.tups, fun _ hp => absurd hp List.not_mem_nil⟩
        show (if bCells = bRows then some (.ref ad) else m bCells) = _
        rw [if_neg (fun e => by have := sEq_iff.mpr e.symm; rw [rows_cells] at this; cases this)]
        exact m3
      · rw [vget_skip (by simpa using hxc)] at ex
        by_cases hxr : sEq x bRows = true
        · rw [vget_hit hxr] at ex
          cases ex
          have hxr := sEq_iff.mp hxr
          subst hxr
          exact ⟨.ref ad, if_pos rfl, ad, us, 0, rfl, hm1, hr1, fun _ hp => absurd hp List.not_mem_nil⟩
        · rw [vget_skip (by simpa using hxr)] at ex
          unfold vget at ex; cases ex
    refine wpAny_execs_cons ?_
    refine For_invVF (h₀ := h₀) F2 lt1 (by show (sc.kind == ScopeKind.class || sc.kind == ScopeKind.module && L != mainGlobals) = false; rw [X.kind]; rfl) ?_ (fun _ => rfl) ?_
    · refine Call_ (name_B F2 C.kin (topRead_of C.top) H.range rfl (by decide) (PyProof.Rows.callWith_type1 ?_ rfl rfl) X.kind gn1 gn2)
      show wpAny _ A (spliced ((false, eval (.Constant (.int 3) k3 q3) (envOf cn sc L a ccd)) :: [])) _ _ _
      refine spliced_cons (wpAny_Constant_int (spliced_nil ?_))
      refine range1_rows F2 N2 fun h3 tk3 t3 u3 v3 hR F3 N3 hk3 => ?_
      refine iter_rangeUnr (n := 3) C.hh hR (small_one (by decide) (by decide) (by decide) (by decide)) (by decide) F3 N3 fun I' hI' => ?_
      exact law_loop O P H X eU (xs := xs) (by omega) (C800.le (by decide)) (fun h4 tk4 m4 news4 F4 N4 => wpAny_execs_cons (wpAny_Return_some (Constant_bool (h h4 tk4 m4 news4 F4 N4)))) 3 0 _ news1 (fun p hp => Nat.ne_of_lt (hI' p hp)) Y
    · exact PassesOwn.never

end


/-! ## law's own lines are those -/

noncomputable def lawSt (i : Nat) : Stmt := match lawTail.drop i with
  | s :: _ => s
  | [] => .Pass ⟨0, 0, 0, 0⟩
noncomputable def lawU : Stmt := match lawBody with
  | s :: _ => s
  | [] => .Pass ⟨0, 0, 0, 0⟩
theorem tail_eq : ∃ k r1 r2, lawTail = [lawSt 0, lawSt 1, .Return (some (.Constant (.bool true) k r1)) r2] := ⟨_, _, _, rfl⟩
theorem lineR_eq : LineR (lawSt 0) := ⟨_, _, _, _, _, _, _, _, _, _, _, _, _, rfl⟩
theorem lineU_eq : LineU lawTgt lawU := ⟨_, _, _, _, _, _, _, _, _, _, _, _, _, _, _, _, _, _, rfl⟩
theorem lineF_eq : LineF (lawU :: lawRest) (lawSt 1) := ⟨_, _, _, _, _, _, rfl⟩
theorem tgt_eq : ∃ p1 p2, lawTgt = [.Name (Str.ofString "item") p1, .Name (Str.ofString "due") p2] := ⟨_, _, rfl⟩
theorem law_locs : (isLoc lawFn.sc bRows = true ∧ isLoc lawFn.sc bCells = true ∧ isLoc lawFn.sc bStep = true ∧ isLoc lawFn.sc (Str.ofString "name") = true ∧ isLoc lawFn.sc (Str.ofString "spelled") = true) ∧
   (isGlo lawFn.sc (Str.ofString "_law_rows") = true ∧ isGlo lawFn.sc (Str.ofString "range") = true ∧ isGlo lawFn.sc (Str.ofString "len") = true) ∧ isLoc lawFn.sc (Str.ofString "item") = true ∧ isLoc lawFn.sc (Str.ofString "due") = true := by decide +kernel

theorem set_two {sc : Scope} {x y : Str} {px py : Pos} {a b : D} {vars : List (Str × Slot)} (hx : isLoc sc x = true) (hy : isLoc sc y = true) : setAll sc [.Name x px, .Name y py] [a, b] vars = some ((y, .val b) :: (x, .val a) :: vars) := by
  unfold setAll
  rw [hx]
  dsimp only
  unfold setAll
  rw [hy]
  dsimp only
  unfold setAll
  rfl

theorem law_pack : LawPack lawFn.sc lawTail lawTgt lawRest where
  tail := by
    obtain ⟨k, r1, r2, e⟩ := tail_eq
    exact ⟨_, _, _, k, r1, r2, e, lineR_eq, lineU_eq, lineF_eq⟩
  set := fun a b vars => by
    obtain ⟨p1, p2, e⟩ := tgt_eq
    rw [e]
    exact set_two law_locs.2.2.1 law_locs.2.2.2
  loc := law_locs.1
  glo := law_locs.2.1
  kind := rfl
  turn := fun X Y j h => turn_at h X Y

/-- the three names and their spellings -/
noncomputable def nameAt : Fin 3 → Str × Str
  | 0 => (Str.ofString "w", Str.ofString "w")
  | 1 => (Str.ofString "if", Str.ofString "\\if ")
  | 2 => (Str.ofString "a+b", Str.ofString "\\a+b ")
theorem name_at (i : Fin 3) : ((nameAt i).1.cps.toList, (nameAt i).2.cps.toList) ∈ pairsN ∧ (nameAt i).1.cps.toList.length ≤ 8 ∧ (nameAt i).2.cps.toList.length ≤ 8 := by
  revert i
  have key : ∀ i : Fin 3, ((pairsN.any fun p => nEq p.1 (nameAt i).1.cps.toList && nEq p.2 (nameAt i).2.cps.toList) && Nat.ble (nameAt i).1.cps.toList.length 8 && Nat.ble (nameAt i).2.cps.toList.length 8) = true := by decide +kernel
  intro i
  obtain ⟨h, h3⟩ := Bool.and_eq_true_iff.mp (key i)
  obtain ⟨h1, h2⟩ := Bool.and_eq_true_iff.mp h
  obtain ⟨p, hp, e⟩ := List.any_eq_true.mp h1
  obtain ⟨e1, e2⟩ := Bool.and_eq_true_iff.mp e
  refine ⟨?_, Nat.le_of_ble_eq_true h2, Nat.le_of_ble_eq_true h3⟩
  rw [← nEq_iff.mp e1, ← nEq_iff.mp e2]
  exact hp

section
variable {prog : Program} {w : World} {K : Frag} {pp : Program} {loose : List Str} {mean : ExcName → Option Value} {mg mb : Str → Option Value}

theorem law_tail (i : Fin 3) {ns : List Int} {h₀ : Heap} {cn : Str} {sc : Scope} {b : List Stmt} {L a : Addr} {cd : Value} {s : Shared} {m : Str → Option Value} {news : List (Addr × Obj)} {t1 t2 : Tok} {ws : List Value} {c : Addr} {Q : Flow → Shared → Prop} {E : Value → Shared → Prop}
    (e1 : b = lawTail) (e2 : sc = lawFn.sc) (H : KOk K) (hk : sc.kind = .function) (K0 : Below callerA h₀ [] h₀) (KI : K.In h₀) (T : Top pp loose mean mg mb h₀)
    (F : Fr h₀ L s.heap m) (N : News h₀ L s.heap news) (m1 : m (Str.ofString "name") = some (.str (nameAt i).1 t1)) (m2 : m (Str.ofString "spelled") = some (.str (nameAt i).2 t2)) (m3 : m bCells = some (.ref c)) (hm : (c, lstO ws 0) ∈ news)
    (hI : IntsAre ws (List.map (fun k' => if k' < 0 then -k' else k') (List.take 3 ns) ++ [0, 0, 0]))
    (h : ∀ h' tk m' news', Fr h₀ L h' m' → News h₀ L h' news' → Q (.ret (.bool true)) { s with heap := h', toks := tk }) :
    wpAny (model prog w) (callerA.deeper (envOf cn sc L a cd)) (execs b (envOf cn sc L a cd)) Q E s := by
  subst e1 e2
  generalize hx : List.map (fun k' => if k' < 0 then -k' else k') (List.take 3 ns) ++ [0, 0, 0] = xs at hI
  obtain ⟨p1, p2, p3⟩ := name_at i
  generalize hz : (xs.getD 2 0).fmod 64 = z
  have z0 : 0 ≤ z := by rw [← hz]; exact Int.fmod_nonneg_of_pos _ (by decide)
  have z1 : z < 64 := by rw [← hz]; exact Int.fmod_lt_of_pos _ (by decide)
  let V : Va := ⟨(nameAt i).1.cps.toList, (nameAt i).2.cps.toList, (Str.ofString (toString z)).cps.toList, z⟩
  have O : V.Ok := ⟨p2, p3, by
    have := toString_length_le z0 (k := 2) (by decide) (by omega)
    have e : (Str.ofString (toString z)).cps.toList.length = (Str.ofString (toString z)).length := by simp [Str.length]
    show (Str.ofString (toString z)).cps.toList.length ≤ 8
    omega, z0, z1, rfl⟩
  have P : V.Pair := p1
  have d1 : V.den [NM] = (nameAt i).1 := by rw [den_nm]
  have d2 : V.den [SP] = (nameAt i).2 := by rw [den_sp]
  refine wpAny_mono (E := Fa) ?_ (fun _ _ x => x) (fun _ _ (x : False) => x.elim)
  refine law_gen (V := V) O P H law_pack ⟨⟨_, _, _, K0, rfl⟩, KI, T, hk, rfl, Nat.le_of_ble_eq_true rfl⟩ F N hx.symm hz.symm (by rw [d1]; exact m1) (by rw [d2]; exact m2) m3 hm hI h
end


/-! ## the written part has the defs -/

noncomputable def scOk (ps : List Str) (sc : Scope) : Bool := ps.all (isLoc sc) && !sc.isCoroutine && !sc.isGenerator && (match sc.kind with | .function => true | _ => false) &&
  sc.names.all (fun p => match p.2 with | .cell => false | _ => true)

section
variable {K : Frag} {f : Str} {r : FnR} {fd : FuncData} {x y z : Str}

theorem fnb0 (h : ∀ s, BindsTo s fd ⟨[], []⟩ []) : ∀ (s : Shared) (vs : List Value), K.In s.heap → vs.length = ([] : List Str).length → BindsTo s fd ⟨vs, []⟩ (([] : List Str).zip vs)
  | s, [], _, _ => h s
theorem fnb1 (h : ∀ s a, BindsTo s fd ⟨[a], []⟩ [(x, a)]) : ∀ (s : Shared) (vs : List Value), K.In s.heap → vs.length = [x].length → BindsTo s fd ⟨vs, []⟩ ([x].zip vs)
  | s, [a], _, _ => h s a
theorem fnb2 (h : ∀ s a b, BindsTo s fd ⟨[a, b], []⟩ [(x, a), (y, b)]) : ∀ (s : Shared) (vs : List Value), K.In s.heap → vs.length = [x, y].length → BindsTo s fd ⟨vs, []⟩ ([x, y].zip vs)
  | s, [a, b], _, _ => h s a b
theorem fnb3 (h : ∀ s a b c, BindsTo s fd ⟨[a, b, c], []⟩ [(x, a), (y, b), (z, c)]) : ∀ (s : Shared) (vs : List Value), K.In s.heap → vs.length = [x, y, z].length → BindsTo s fd ⟨vs, []⟩ ([x, y, z].zip vs)
  | s, [a, b, c], _, _ => h s a b c
theorem fnk2 (h : ∀ s a b, K.In s.heap → BindsTo s fd ⟨[a, b], []⟩ [(x, a), (y, b)]) : ∀ (s : Shared) (vs : List Value), K.In s.heap → vs.length = [x, y].length → BindsTo s fd ⟨vs, []⟩ ([x, y].zip vs)
  | s, [a, b], k, _ => h s a b k
theorem fnd2 (h : ∀ s a, K.In s.heap → BindsTo s fd ⟨[a], []⟩ [(x, a), (y, .bool false)]) : true = true → ∀ (s : Shared) (vs : List Value), K.In s.heap → vs.length + 1 = [x, y].length → BindsTo s fd ⟨vs, []⟩ ([x, y].zip (vs ++ [.bool false]))
  | _, s, [a], k, _ => h s a k
theorem fnd3 (h : ∀ s a b, K.In s.heap → BindsTo s fd ⟨[a, b], []⟩ [(x, a), (y, b), (z, .bool false)]) : true = true → ∀ (s : Shared) (vs : List Value), K.In s.heap → vs.length + 1 = [x, y, z].length → BindsTo s fd ⟨vs, []⟩ ([x, y, z].zip (vs ++ [.bool false]))
  | _, s, [a, b], k, _ => h s a b k

theorem fnOk_mk {fa : Addr} {oc : Value} {od : Option Addr} {name qual : Str} {params : Arguments} {body : List Stmt} {sc : Scope} {dV kV doc pm : Value} {an : Option Addr} {cdv ct : Value} {osl : Array (Option Value)} {ps : List Str} {d : Bool}
    (h1 : nsIn K mainGlobals f = some (some (.ref fa))) (h2 : keepIn K (.ref fa) = true) (h3 : K.lookup fa = some ⟨oc, od, .func (fnOf name qual params body sc dV kV doc pm an cdv ct), osl⟩) (h4 : codeIn K cdv qual = true)
    (e1 : (fnR f).params = ps) (e2 : (fnR f).dflt = d) (e3 : (fnR f).body = body) (e4 : (fnR f).sc = sc)
    (hb : ∀ (s : Shared) (vs : List Value), K.In s.heap → vs.length = ps.length → BindsTo s (fnOf name qual params body sc dV kV doc pm an cdv ct) ⟨vs, []⟩ (ps.zip vs))
    (hd : d = true → ∀ (s : Shared) (vs : List Value), K.In s.heap → vs.length + 1 = ps.length → BindsTo s (fnOf name qual params body sc dV kV doc pm an cdv ct) ⟨vs, []⟩ (ps.zip (vs ++ [.bool false])))
    (hs : scOk (fnR f).params (fnR f).sc = true) : FnOk K f (fnR f) := by
  subst e1 e2 e3 e4
  unfold scOk at hs
  obtain ⟨hs, s5⟩ := Bool.and_eq_true_iff.mp hs
  obtain ⟨hs, s4⟩ := Bool.and_eq_true_iff.mp hs
  obtain ⟨hs, s3⟩ := Bool.and_eq_true_iff.mp hs
  obtain ⟨s1, s2⟩ := Bool.and_eq_true_iff.mp hs
  refine ⟨fa, oc, od, name, qual, params, dV, kV, doc, pm, an, cdv, ct, osl, h1, h2, h3, h4, hb, hd, fun q hq => (isLoc_of (List.all_eq_true.mp s1 q hq)).1, by simpa using s2, by simpa using s3, ?_, fun q hq e => ?_⟩
  · split at s4
    · assumption
    · cases s4
  · have z := List.all_eq_true.mp s5 q hq
    rw [e] at z
    cases z
end

theorem with_kok {K : Frag} {h : Heap} {G : Prop} (_ : K.In h) (hk : KOk K) (hg : KOk K → G) : G := hg hk
theorem fn_all {P : Str → Prop} (h0 : P (Str.ofString "numeral_text")) (h1 : P (Str.ofString "keyword_words")) (h2 : P (Str.ofString "is_simple_name")) (h3 : P (Str.ofString "id_text")) (h4 : P (Str.ofString "list_text")) (h5 : P (Str.ofString "expr_text"))
    (h6 : P (Str.ofString "type_text")) (h7 : P (Str.ofString "range_text")) (h8 : P (Str.ofString "strength_text")) (h9 : P (Str.ofString "delays_text")) (h10 : P (Str.ofString "declarator_text")) (h11 : P (Str.ofString "param_text")) (h12 : P (Str.ofString "declaration_text"))
    (h13 : P (Str.ofString "label_text")) (h14 : P (Str.ofString "gate_text")) (h15 : P (Str.ofString "_law_rows")) : ∀ x ∈ fnNames, P x := by
  intro x hx
  unfold fnNames at hx
  simp only [List.mem_cons, List.not_mem_nil, or_false] at hx
  rcases hx with rfl | rfl | rfl | rfl | rfl | rfl | rfl | rfl | rfl | rfl | rfl | rfl | rfl | rfl | rfl | rfl <;> assumption


/-! ## the written part, said shortly -/

noncomputable def defArgs (f : Str) : List Stmt → Arguments
  | [] => ⟨[], [], none, [], [], none, []⟩
  | .FunctionDef name args _ _ _ _ _ _ _ _ :: r => match sEq f name with
    | true => args
    | false => defArgs f r
  | _ :: r => defArgs f r
noncomputable def fO (x : Str) (dV pm cd : Value) : Obj := { cls := Value.type "function", data := .func (fnOf x x (defArgs x progBody) (fnR x).body (fnR x).sc dV .none .none pm none cd .none) }
noncomputable def globO (P : Params) : Obj := { cls := Value.type "dict", data := Data.dict #[{ hash := PyData.keyHash P (Str.ofString "__name__"), key := Value.str (Str.ofString "__name__") 165, val := Value.str (Str.ofString "law_on0110_01") 398 }, { hash := PyData.keyHash P (Str.ofString "__doc__"), key := Value.str (Str.ofString "__doc__") 166, val := Value.none }, { hash := PyData.keyHash P (Str.ofString "__package__"), key := Value.str (Str.ofString "__package__") 167, val := Value.none }, { hash := PyData.keyHash P (Str.ofString "__loader__"), key := Value.str (Str.ofString "__loader__") 168, val := Value.builtin ("__main__.__loader__#opa" ++ "que") }, { hash := PyData.keyHash P (Str.ofString "__spec__"), key := Value.str (Str.ofString "__spec__") 169, val := Value.none }, { hash := PyData.keyHash P (Str.ofString "__annotations__"), key := Value.str (Str.ofString "__annotations__") 170, val := Value.ref 6 }, { hash := PyData.keyHash P (Str.ofString "__builtins__"), key := Value.str (Str.ofString "__builtins__") 171, val := Value.ref 4 }, { hash := PyData.keyHash P (Str.ofString "__file__"), key := Value.str (Str.ofString "__file__") 173, val := Value.str (Str.ofString "/claim/cut.py") 172 }, { hash := PyData.keyHash P (Str.ofString "__cached__"), key := Value.str (Str.ofString "__cached__") 174, val := Value.none }, { hash := PyData.keyHash P (Str.ofString "precedence"), key := Value.str (Str.ofString "precedence") 195, val := Value.ref 21 }, { hash := PyData.keyHash P (Str.ofString "code"), key := Value.str (Str.ofString "code") 205, val := Value.ref 28 }, { hash := PyData.keyHash P (Str.ofString "bits_text"), key := Value.str (Str.ofString "bits_text") 215, val := Value.ref 35 }, { hash := PyData.keyHash P (Str.ofString "PLAIN_BITS"), key := Value.str (Str.ofString "PLAIN_BITS") 219, val := Value.int 32 218 }, { hash := PyData.keyHash P (Str.ofString "numeral_text"), key := Value.str (Str.ofString "numeral_text") 232, val := Value.ref 42 }, { hash := PyData.keyHash P (Str.ofString "keyword_words"), key := Value.str (Str.ofString "keyword_words") 240, val := Value.ref 49 }, { hash := PyData.keyHash P (Str.ofString "is_simple_name"), key := Value.str (Str.ofString "is_simple_name") 252, val := Value.ref 56 }, { hash := PyData.keyHash P (Str.ofString "id_text"), key := Value.str (Str.ofString "id_text") 259, val := Value.ref 63 }, { hash := PyData.keyHash P (Str.ofString "string_literal"), key := Value.str (Str.ofString "string_literal") 269, val := Value.ref 70 }, { hash := PyData.keyHash P (Str.ofString "rank"), key := Value.str (Str.ofString "rank") 276, val := Value.ref 77 }, { hash := PyData.keyHash P (Str.ofString "operand_text"), key := Value.str (Str.ofString "operand_text") 284, val := Value.ref 84 }, { hash := PyData.keyHash P (Str.ofString "list_text"), key := Value.str (Str.ofString "list_text") 293, val := Value.ref 91 }, { hash := PyData.keyHash P (Str.ofString "path_text"), key := Value.str (Str.ofString "path_text") 304, val := Value.ref 98 }, { hash := PyData.keyHash P (Str.ofString "select_text"), key := Value.str (Str.ofString "select_text") 313, val := Value.ref 105 }, { hash := PyData.keyHash P (Str.ofString "expr_text"), key := Value.str (Str.ofString "expr_text") 322, val := Value.ref 112 }, { hash := PyData.keyHash P (Str.ofString "type_text"), key := Value.str (Str.ofString "type_text") 333, val := Value.ref 119 }, { hash := PyData.keyHash P (Str.ofString "range_text"), key := Value.str (Str.ofString "range_text") 340, val := Value.ref 126 }, { hash := PyData.keyHash P (Str.ofString "strength_text"), key := Value.str (Str.ofString "strength_text") 349, val := Value.ref 134 }, { hash := PyData.keyHash P (Str.ofString "delays_text"), key := Value.str (Str.ofString "delays_text") 356, val := Value.ref 141 }, { hash := PyData.keyHash P (Str.ofString "declarator_text"), key := Value.str (Str.ofString "declarator_text") 367, val := Value.ref 148 }, { hash := PyData.keyHash P (Str.ofString "param_text"), key := Value.str (Str.ofString "param_text") 374, val := Value.ref 155 }, { hash := PyData.keyHash P (Str.ofString "declaration_text"), key := Value.str (Str.ofString "declaration_text") 380, val := Value.ref 160 }, { hash := PyData.keyHash P (Str.ofString "label_text"), key := Value.str (Str.ofString "label_text") 389, val := Value.ref 167 }, { hash := PyData.keyHash P (Str.ofString "gate_text"), key := Value.str (Str.ofString "gate_text") 397, val := Value.ref 174 }, { hash := PyData.keyHash P (Str.ofString "_law_rows"), key := Value.str (Str.ofString "_law_rows") 405, val := Value.ref 179 }, { hash := PyData.keyHash P (Str.ofString "law"), key := Value.str (Str.ofString "law") 411, val := Value.ref 184 }] 35 }
noncomputable def cO41 : Obj := { cls := Value.type "code", data := Data.fields #[Value.str (Str.ofString "numeral_text") 220, Value.str (Str.ofString "numeral_text") 221, Value.str (Str.ofString "/claim/cut.py") 222, Value.int 37 0, Value.int 3 0, Value.int 0 0, Value.int 0 0, Value.int 3 0, Value.ref 36, Value.bool true, Value.int 181 0, Value.ref 37, Value.none, Value.ref 38, Value.ref 39, Value.ref 40, Value.int 230 0, Value.int 37 0, Value.str (Str.ofString "/claim/cut.py") 231] }
noncomputable def cO48 : Obj := { cls := Value.type "code", data := Data.fields #[Value.str (Str.ofString "keyword_words") 235, Value.str (Str.ofString "keyword_words") 236, Value.str (Str.ofString "/claim/cut.py") 237, Value.int 48 0, Value.int 0 0, Value.int 0 0, Value.int 0 0, Value.int 3 0, Value.ref 43, Value.bool true, Value.int 181 0, Value.ref 44, Value.none, Value.ref 45, Value.ref 46, Value.ref 47, Value.int 238 0, Value.int 48 0, Value.str (Str.ofString "/claim/cut.py") 239] }
noncomputable def cO55 : Obj := { cls := Value.type "code", data := Data.fields #[Value.str (Str.ofString "is_simple_name") 243, Value.str (Str.ofString "is_simple_name") 244, Value.str (Str.ofString "/claim/cut.py") 245, Value.int 51 0, Value.int 1 0, Value.int 0 0, Value.int 0 0, Value.int 3 0, Value.ref 50, Value.bool true, Value.int 181 0, Value.ref 51, Value.none, Value.ref 52, Value.ref 53, Value.ref 54, Value.int 250 0, Value.int 51 0, Value.str (Str.ofString "/claim/cut.py") 251] }
noncomputable def cO62 : Obj := { cls := Value.type "code", data := Data.fields #[Value.str (Str.ofString "id_text") 253, Value.str (Str.ofString "id_text") 254, Value.str (Str.ofString "/claim/cut.py") 255, Value.int 58 0, Value.int 1 0, Value.int 0 0, Value.int 0 0, Value.int 3 0, Value.ref 57, Value.bool true, Value.int 181 0, Value.ref 58, Value.none, Value.ref 59, Value.ref 60, Value.ref 61, Value.int 257 0, Value.int 58 0, Value.str (Str.ofString "/claim/cut.py") 258] }
noncomputable def cO90 : Obj := { cls := Value.type "code", data := Data.fields #[Value.str (Str.ofString "list_text") 285, Value.str (Str.ofString "list_text") 286, Value.str (Str.ofString "/claim/cut.py") 287, Value.int 89 0, Value.int 1 0, Value.int 0 0, Value.int 0 0, Value.int 3 0, Value.ref 85, Value.bool true, Value.int 181 0, Value.ref 86, Value.none, Value.ref 87, Value.ref 88, Value.ref 89, Value.int 291 0, Value.int 89 0, Value.str (Str.ofString "/claim/cut.py") 292] }
noncomputable def cO111 : Obj := { cls := Value.type "code", data := Data.fields #[Value.str (Str.ofString "expr_text") 314, Value.str (Str.ofString "expr_text") 315, Value.str (Str.ofString "/claim/cut.py") 316, Value.int 112 0, Value.int 1 0, Value.int 0 0, Value.int 0 0, Value.int 3 0, Value.ref 106, Value.bool true, Value.int 181 0, Value.ref 107, Value.none, Value.ref 108, Value.ref 109, Value.ref 110, Value.int 320 0, Value.int 112 0, Value.str (Str.ofString "/claim/cut.py") 321] }
noncomputable def cO118 : Obj := { cls := Value.type "code", data := Data.fields #[Value.str (Str.ofString "type_text") 325, Value.str (Str.ofString "type_text") 326, Value.str (Str.ofString "/claim/cut.py") 327, Value.int 139 0, Value.int 2 0, Value.int 0 0, Value.int 0 0, Value.int 3 0, Value.ref 113, Value.bool true, Value.int 181 0, Value.ref 114, Value.none, Value.ref 115, Value.ref 116, Value.ref 117, Value.int 331 0, Value.int 139 0, Value.str (Str.ofString "/claim/cut.py") 332] }
noncomputable def cO125 : Obj := { cls := Value.type "code", data := Data.fields #[Value.str (Str.ofString "range_text") 334, Value.str (Str.ofString "range_text") 335, Value.str (Str.ofString "/claim/cut.py") 336, Value.int 144 0, Value.int 1 0, Value.int 0 0, Value.int 0 0, Value.int 3 0, Value.ref 120, Value.bool true, Value.int 181 0, Value.ref 121, Value.none, Value.ref 122, Value.ref 123, Value.ref 124, Value.int 338 0, Value.int 144 0, Value.str (Str.ofString "/claim/cut.py") 339] }
noncomputable def cO127 : Obj := { cls := Value.type "tuple", data := Data.seq #[Value.bool false] }
noncomputable def cO133 : Obj := { cls := Value.type "code", data := Data.fields #[Value.str (Str.ofString "strength_text") 341, Value.str (Str.ofString "strength_text") 342, Value.str (Str.ofString "/claim/cut.py") 343, Value.int 146 0, Value.int 2 0, Value.int 0 0, Value.int 0 0, Value.int 3 0, Value.ref 128, Value.bool true, Value.int 181 0, Value.ref 129, Value.none, Value.ref 130, Value.ref 131, Value.ref 132, Value.int 347 0, Value.int 146 0, Value.str (Str.ofString "/claim/cut.py") 348] }
noncomputable def cO140 : Obj := { cls := Value.type "code", data := Data.fields #[Value.str (Str.ofString "delays_text") 350, Value.str (Str.ofString "delays_text") 351, Value.str (Str.ofString "/claim/cut.py") 352, Value.int 153 0, Value.int 1 0, Value.int 0 0, Value.int 0 0, Value.int 3 0, Value.ref 135, Value.bool true, Value.int 181 0, Value.ref 136, Value.none, Value.ref 137, Value.ref 138, Value.ref 139, Value.int 354 0, Value.int 153 0, Value.str (Str.ofString "/claim/cut.py") 355] }
noncomputable def cO147 : Obj := { cls := Value.type "code", data := Data.fields #[Value.str (Str.ofString "declarator_text") 357, Value.str (Str.ofString "declarator_text") 358, Value.str (Str.ofString "/claim/cut.py") 359, Value.int 155 0, Value.int 3 0, Value.int 0 0, Value.int 0 0, Value.int 3 0, Value.ref 142, Value.bool true, Value.int 181 0, Value.ref 143, Value.none, Value.ref 144, Value.ref 145, Value.ref 146, Value.int 365 0, Value.int 155 0, Value.str (Str.ofString "/claim/cut.py") 366] }
noncomputable def cO154 : Obj := { cls := Value.type "code", data := Data.fields #[Value.str (Str.ofString "param_text") 368, Value.str (Str.ofString "param_text") 369, Value.str (Str.ofString "/claim/cut.py") 370, Value.int 160 0, Value.int 1 0, Value.int 0 0, Value.int 0 0, Value.int 3 0, Value.ref 149, Value.bool true, Value.int 181 0, Value.ref 150, Value.none, Value.ref 151, Value.ref 152, Value.ref 153, Value.int 372 0, Value.int 160 0, Value.str (Str.ofString "/claim/cut.py") 373] }
noncomputable def cO159 : Obj := { cls := Value.type "code", data := Data.fields #[Value.str (Str.ofString "declaration_text") 375, Value.str (Str.ofString "declaration_text") 376, Value.str (Str.ofString "/claim/cut.py") 377, Value.int 162 0, Value.int 1 0, Value.int 0 0, Value.int 0 0, Value.int 3 0, Value.ref 156, Value.bool true, Value.int 181 0, Value.ref 157, Value.none, Value.none, Value.none, Value.ref 158, Value.int 378 0, Value.int 162 0, Value.str (Str.ofString "/claim/cut.py") 379] }
noncomputable def cO166 : Obj := { cls := Value.type "code", data := Data.fields #[Value.str (Str.ofString "label_text") 381, Value.str (Str.ofString "label_text") 382, Value.str (Str.ofString "/claim/cut.py") 383, Value.int 183 0, Value.int 2 0, Value.int 0 0, Value.int 0 0, Value.int 3 0, Value.ref 161, Value.bool true, Value.int 181 0, Value.ref 162, Value.none, Value.ref 163, Value.ref 164, Value.ref 165, Value.int 387 0, Value.int 183 0, Value.str (Str.ofString "/claim/cut.py") 388] }
noncomputable def cO173 : Obj := { cls := Value.type "code", data := Data.fields #[Value.str (Str.ofString "gate_text") 390, Value.str (Str.ofString "gate_text") 391, Value.str (Str.ofString "/claim/cut.py") 392, Value.int 186 0, Value.int 1 0, Value.int 0 0, Value.int 0 0, Value.int 3 0, Value.ref 168, Value.bool true, Value.int 181 0, Value.ref 169, Value.none, Value.ref 170, Value.ref 171, Value.ref 172, Value.int 395 0, Value.int 186 0, Value.str (Str.ofString "/claim/cut.py") 396] }
noncomputable def cO178 : Obj := { cls := Value.type "code", data := Data.fields #[Value.str (Str.ofString "_law_rows") 400, Value.str (Str.ofString "_law_rows") 401, Value.str (Str.ofString "/claim/cut.py") 402, Value.int 190 0, Value.int 3 0, Value.int 0 0, Value.int 0 0, Value.int 3 0, Value.ref 175, Value.bool true, Value.int 181 0, Value.ref 176, Value.none, Value.none, Value.none, Value.ref 177, Value.int 403 0, Value.int 190 0, Value.str (Str.ofString "/claim/cut.py") 404] }
noncomputable def fO42 : Obj := fO (Str.ofString "numeral_text") (Value.none) (Value.str (Str.ofString "gateloom.numerals") 216) (Value.ref 41)
noncomputable def fO49 : Obj := fO (Str.ofString "keyword_words") (Value.none) (Value.str (Str.ofString "gateloom.tokens") 233) (Value.ref 48)
noncomputable def fO56 : Obj := fO (Str.ofString "is_simple_name") (Value.none) (Value.str (Str.ofString "gateloom.exprtext") 241) (Value.ref 55)
noncomputable def fO63 : Obj := fO (Str.ofString "id_text") (Value.none) (Value.str (Str.ofString "gateloom.exprtext") 241) (Value.ref 62)
noncomputable def fO91 : Obj := fO (Str.ofString "list_text") (Value.none) (Value.str (Str.ofString "gateloom.exprtext") 241) (Value.ref 90)
noncomputable def fO112 : Obj := fO (Str.ofString "expr_text") (Value.none) (Value.str (Str.ofString "gateloom.exprtext") 241) (Value.ref 111)
noncomputable def fO119 : Obj := fO (Str.ofString "type_text") (Value.none) (Value.str (Str.ofString "gateloom.unparse") 323) (Value.ref 118)
noncomputable def fO126 : Obj := fO (Str.ofString "range_text") (Value.none) (Value.str (Str.ofString "gateloom.unparse") 323) (Value.ref 125)
noncomputable def fO134 : Obj := fO (Str.ofString "strength_text") (Value.ref 127) (Value.str (Str.ofString "gateloom.unparse") 323) (Value.ref 133)
noncomputable def fO141 : Obj := fO (Str.ofString "delays_text") (Value.none) (Value.str (Str.ofString "gateloom.unparse") 323) (Value.ref 140)
noncomputable def fO148 : Obj := fO (Str.ofString "declarator_text") (Value.none) (Value.str (Str.ofString "gateloom.unparse") 323) (Value.ref 147)
noncomputable def fO155 : Obj := fO (Str.ofString "param_text") (Value.none) (Value.str (Str.ofString "gateloom.unparse") 323) (Value.ref 154)
noncomputable def fO160 : Obj := fO (Str.ofString "declaration_text") (Value.none) (Value.str (Str.ofString "gateloom.unparse") 323) (Value.ref 159)
noncomputable def fO167 : Obj := fO (Str.ofString "label_text") (Value.none) (Value.str (Str.ofString "gateloom.unparse") 323) (Value.ref 166)
noncomputable def fO174 : Obj := fO (Str.ofString "gate_text") (Value.none) (Value.str (Str.ofString "gateloom.unparse") 323) (Value.ref 173)
noncomputable def fO179 : Obj := fO (Str.ofString "_law_rows") (Value.none) (Value.str (Str.ofString "law_on0110_01") 398) (Value.ref 178)
noncomputable def frag (P : Params) : Frag := [(3, globO P), (41, cO41), (42, fO42), (48, cO48), (49, fO49), (55, cO55), (56, fO56), (62, cO62), (63, fO63), (90, cO90), (91, fO91), (111, cO111), (112, fO112), (118, cO118), (119, fO119), (125, cO125), (126, fO126), (127, cO127), (133, cO133), (134, fO134), (140, cO140), (141, fO141), (147, cO147), (148, fO148), (154, cO154), (155, fO155), (159, cO159), (160, fO160), (166, cO166), (167, fO167), (173, cO173), (174, fO174), (178, cO178), (179, fO179)]

theorem fnOk_fO {K : Frag} {f : Str} {fa cd : Addr} {dV pm : Value} {ps : List Str} {d : Bool} {o : Obj}
    (h1 : nsIn K mainGlobals f = some (some (.ref fa))) (h3 : K.lookup fa = some o) (ho : o = fO f dV pm (.ref cd)) (h4 : codeIn K (.ref cd) f = true)
    (e1 : (fnR f).params = ps) (e2 : (fnR f).dflt = d)
    (hb : ∀ (s : Shared) (vs : List Value), K.In s.heap → vs.length = ps.length → BindsTo s (fnOf f f (defArgs f progBody) (fnR f).body (fnR f).sc dV .none .none pm none (.ref cd) .none) ⟨vs, []⟩ (ps.zip vs))
    (hd : d = true → ∀ (s : Shared) (vs : List Value), K.In s.heap → vs.length + 1 = ps.length → BindsTo s (fnOf f f (defArgs f progBody) (fnR f).body (fnR f).sc dV .none .none pm none (.ref cd) .none) ⟨vs, []⟩ (ps.zip (vs ++ [.bool false])))
    (hs : scOk (fnR f).params (fnR f).sc = true) : FnOk K f (fnR f) := by
  subst ho
  exact fnOk_mk h1 (by show (match K.lookup fa with | some ⟨_, _, .func _, _⟩ => true | some ⟨_, _, .cls _, _⟩ => _ | _ => false) = true; rw [h3]; rfl) h3 h4 e1 e2 rfl rfl hb hd hs

theorem kok (P : Params) : KOk (frag P) where
  tab := fn_all
    (fnOk_fO (fa := 42) (o := fO42) (by kernel_rfl) (by kernel_rfl) rfl (by kernel_rfl) rfl rfl (fnb3 (fun s a b c => BindsTo.of_eq rfl)) (fun e => Bool.noConfusion e) (by decide +kernel))
    (fnOk_fO (fa := 49) (o := fO49) (by kernel_rfl) (by kernel_rfl) rfl (by kernel_rfl) rfl rfl (by intro s vs kk hl; cases vs with | nil => exact BindsTo.of_eq rfl | cons a r => exact absurd hl (Nat.succ_ne_zero _)) (fun e => Bool.noConfusion e) (by decide +kernel))
    (fnOk_fO (fa := 56) (o := fO56) (by kernel_rfl) (by kernel_rfl) rfl (by kernel_rfl) rfl rfl (fnb1 (fun s a => BindsTo.of_eq rfl)) (fun e => Bool.noConfusion e) (by decide +kernel))
    (fnOk_fO (fa := 63) (o := fO63) (by kernel_rfl) (by kernel_rfl) rfl (by kernel_rfl) rfl rfl (fnb1 (fun s a => BindsTo.of_eq rfl)) (fun e => Bool.noConfusion e) (by decide +kernel))
    (fnOk_fO (fa := 91) (o := fO91) (by kernel_rfl) (by kernel_rfl) rfl (by kernel_rfl) rfl rfl (fnb1 (fun s a => BindsTo.of_eq rfl)) (fun e => Bool.noConfusion e) (by decide +kernel))
    (fnOk_fO (fa := 112) (o := fO112) (by kernel_rfl) (by kernel_rfl) rfl (by kernel_rfl) rfl rfl (fnb1 (fun s a => BindsTo.of_eq rfl)) (fun e => Bool.noConfusion e) (by decide +kernel))
    (fnOk_fO (fa := 119) (o := fO119) (by kernel_rfl) (by kernel_rfl) rfl (by kernel_rfl) rfl rfl (fnb2 (fun s a b => BindsTo.of_eq rfl)) (fun e => Bool.noConfusion e) (by decide +kernel))
    (fnOk_fO (fa := 126) (o := fO126) (by kernel_rfl) (by kernel_rfl) rfl (by kernel_rfl) rfl rfl (fnb1 (fun s a => BindsTo.of_eq rfl)) (fun e => Bool.noConfusion e) (by decide +kernel))
    (fnOk_fO (fa := 134) (o := fO134) (by kernel_rfl) (by kernel_rfl) rfl (by kernel_rfl) rfl rfl (fnk2 (fun s a b kk => binds_K (T := 127) (o := cO127) kk rfl rfl rfl rfl rfl)) (fnd2 (fun s a kk => binds_K (T := 127) (o := cO127) kk rfl rfl rfl rfl rfl)) (by decide +kernel))
    (fnOk_fO (fa := 141) (o := fO141) (by kernel_rfl) (by kernel_rfl) rfl (by kernel_rfl) rfl rfl (fnb1 (fun s a => BindsTo.of_eq rfl)) (fun e => Bool.noConfusion e) (by decide +kernel))
    (fnOk_fO (fa := 148) (o := fO148) (by kernel_rfl) (by kernel_rfl) rfl (by kernel_rfl) rfl rfl (fnb3 (fun s a b c => BindsTo.of_eq rfl)) (fun e => Bool.noConfusion e) (by decide +kernel))
    (fnOk_fO (fa := 155) (o := fO155) (by kernel_rfl) (by kernel_rfl) rfl (by kernel_rfl) rfl rfl (fnb1 (fun s a => BindsTo.of_eq rfl)) (fun e => Bool.noConfusion e) (by decide +kernel))
    (fnOk_fO (fa := 160) (o := fO160) (by kernel_rfl) (by kernel_rfl) rfl (by kernel_rfl) rfl rfl (fnb1 (fun s a => BindsTo.of_eq rfl)) (fun e => Bool.noConfusion e) (by decide +kernel))
    (fnOk_fO (fa := 167) (o := fO167) (by kernel_rfl) (by kernel_rfl) rfl (by kernel_rfl) rfl rfl (fnb2 (fun s a b => BindsTo.of_eq rfl)) (fun e => Bool.noConfusion e) (by decide +kernel))
    (fnOk_fO (fa := 174) (o := fO174) (by kernel_rfl) (by kernel_rfl) rfl (by kernel_rfl) rfl rfl (fnb1 (fun s a => BindsTo.of_eq rfl)) (fun e => Bool.noConfusion e) (by decide +kernel))
    (fnOk_fO (fa := 179) (o := fO179) (by kernel_rfl) (by kernel_rfl) rfl (by kernel_rfl) rfl rfl (fnb3 (fun s a b c => BindsTo.of_eq rfl)) (fun e => Bool.noConfusion e) (by decide +kernel))
  bits := ⟨218, by kernel_rfl⟩
  str := by kernel_rfl
  range := by kernel_rfl
  len := by kernel_rfl


/-! ## the look at the text: its long literal by hand -/

theorem str_road {k : Look} {x : Str} (hs : k.strict = false) (hf : k.foot = none) (hb : k.but = none) (h1 : frameAttrs.contains x = false) (h2 : x.opensWith "__" = false) (h3 : roadStr x = false) : k.str x = true := by
  unfold Look.str Look.word attrL
  rw [hs, hf, hb, h1, h2, h3]
  simp
theorem take_ne {x y : Str} {l : List Nat} (hx : x = ⟨l.toArray⟩) (h : nEq (l.take 12) (y.cps.toList.take 12) = false) : x ≠ y := by
  intro e
  rw [← e, hx] at h
  have : nEq (l.take 12) (l.take 12) = true := nEq_iff.mpr rfl
  rw [this] at h
  cases h
theorem kw_frames : frameAttrs.contains kwC = false := by
  have key : (frameAttrs.all fun y => !nEq (kwL.take 12) (y.cps.toList.take 12)) = true := by decide +kernel
  cases h : frameAttrs.contains kwC with
  | false => rfl
  | true =>
    have hm := List.contains_iff_mem.mp h
    have k := List.all_eq_true.mp key _ hm
    exact absurd rfl (take_ne (x := kwC) (y := kwC) kw_cps (by simpa using k))
theorem kw_opens : kwC.opensWith "__" = false := by
  rw [kw_cps]; decide +kernel
theorem kw_any : kwL.any (fun c => c == 123 || c == 125) = false ∧ kwL.any (· == 46) = false := by decide +kernel
theorem kw_roadStr : roadStr kwC = false := by
  rw [kw_cps]
  unfold roadStr
  rw [← Array.any_toList, ← Array.any_toList, kw_any.1, kw_any.2]
  rfl
noncomputable def lk0 : Look := { strict := false, foot := none, bare := [] }
noncomputable def kwF (x : Str) : Stmt := match progBody.drop 9 with
  | .FunctionDef n a [.Return (some (.Constant (.str _) k q)) q'] d1 d2 d3 d4 d5 d6 d7 :: _ => .FunctionDef n a [.Return (some (.Constant (.str x) k q)) q'] d1 d2 d3 d4 d5 d6 d7
  | _ => .Pass ⟨0, 0, 0, 0⟩
theorem kw_split : progBody.drop 9 = kwF kwC :: progBody.drop 10 := by kernel_rfl
theorem pre_road : noRoadLSs lk0 (progBody.take 9) = true := by decide +kernel
theorem post_road : noRoadLSs lk0 (progBody.drop 10) = true := by decide +kernel
theorem kwF_look (x : Str) : noRoadLS lk0 (kwF x) = ((((lk0.inDef.str x && true) && true) && true) && true) := by kernel_rfl
theorem road_append (lk : Look) : ∀ a b : List Stmt, noRoadLSs lk (a ++ b) = (noRoadLSs lk a && noRoadLSs lk b)
  | [], b => by simp [noRoadLSs]
  | s :: r, b => by
    have e : ∀ t : List Stmt, noRoadLSs lk (s :: t) = (noRoadLS lk s && noRoadLSs lk t) := fun t => by rw [noRoadLSs]
    rw [List.cons_append, e, e, road_append lk r b, Bool.and_assoc]
theorem road_all : noRoadLSs lk0 progBody = true := by
  rw [← List.take_append_drop 9 progBody, road_append, pre_road, kw_split]
  have e : ∀ (s : Stmt) (t : List Stmt), noRoadLSs lk0 (s :: t) = (noRoadLS lk0 s && noRoadLSs lk0 t) := fun s t => by rw [noRoadLSs]
  rw [e, kwF_look, str_road rfl rfl rfl kw_frames kw_opens kw_roadStr, post_road]
  rfl
theorem road_strict : (!(importedModules PySem.Challenge.rw_on0110_01.row.prog.main.body).all cThrough.contains) = false := by decide +kernel
theorem road_bare : List.filter (readsOut PySem.Challenge.rw_on0110_01.row.prog PySem.Challenge.rw_on0110_01.row.prog.main.body) [Str.ofString "vars", Str.ofString "dir", Str.ofString "locals"] = [] := by kernel_rfl
theorem road_row : noRoadLSs { strict := !(importedModules PySem.Challenge.rw_on0110_01.row.prog.main.body).all cThrough.contains, foot := none, bare := List.filter (readsOut PySem.Challenge.rw_on0110_01.row.prog PySem.Challenge.rw_on0110_01.row.prog.main.body) [Str.ofString "vars", Str.ofString "dir", Str.ofString "locals"] } PySem.Challenge.rw_on0110_01.row.prog.main.body = true := by
  rw [road_strict, road_bare]
  exact road_all
theorem law_said : PySem.Challenge.rw_on0110_01.wellSaid = true := by
  unfold OpenLaw.wellSaid
  repeat' (with_reducible refine look_both ?_ ?_)
  all_goals (try unfold OpenRow.wellSaid)
  all_goals (try (repeat' (with_reducible refine look_both ?_ ?_)))
  all_goals (try unfold OpenRow.partSaid)
  all_goals (try (repeat' (with_reducible refine look_both ?_ ?_)))
  all_goals (try unfold looksOpen)
  all_goals (try (repeat' (with_reducible refine look_both ?_ ?_)))
  all_goals (first | (with_reducible exact road_row) | decide +kernel)

end Mine
namespace Mine
/-! ## the head: the view of the text, the objects looked at -/
noncomputable def pick : List Nat → Nat → List Stmt → List Stmt
  | _, _, [] => []
  | [], _, _ => []
  | i :: is, n, s :: r => match Nat.beq i n with
    | true => s :: pick is (n + 1) r
    | false => pick (i :: is) (n + 1) r
noncomputable def view : Program := { PySem.Challenge.pw_on0110_01 with main := { PySem.Challenge.pw_on0110_01.main with body := pick [1, 3, 4, 6, 7, 9, 11, 12, 13, 14, 15, 16, 17, 18, 19, 21, 22, 24, 25, 26, 27, 28, 29, 31, 32] 0 progBody } }
noncomputable def addrs : List Addr := [3, 41, 42, 48, 49, 55, 56, 62, 63, 90, 91, 111, 112, 118, 119, 125, 126, 127, 133, 134, 140, 141, 147, 148, 154, 155, 159, 160, 166, 167, 173, 174, 178, 179]
theorem addrs_eq : ∀ P, addrs = (frag P).map (·.1) := fun _ => by kernel_rfl
end Mine
local macro_rules | `(tactic| walk_at "execs cons") => `(tactic| ((with_reducible show wpAny _ _ (execs (Stmt.Assign [Expr.Name (Str.ofString "rows") _] _ _ :: _) _) _ _ _); (with_reducible refine' Mine.law_tail _ ?e1 ?e2 ?KO ?hk ?K0 ?KX ?T ?F ?N ?m1 ?m2 ?m3 ?hm ?hI ?_); (case e1 => kernel_rfl); (case e2 => kernel_rfl); (case KO => assumption); (case hk => exact rfl); (case F => k_asm); (case N => k_asm); (case K0 => k_asm); (case KX => k_in); (case T => k_asm); (case hI => k_asm); (case m1 => k_dflt first | exact (rfl : _ = some (Value.str (Mine.nameAt 0).1 _)) | exact (rfl : _ = some (Value.str (Mine.nameAt 1).1 _)) | exact (rfl : _ = some (Value.str (Mine.nameAt 2).1 _))); (case m2 => k_dflt first | exact rfl); (case m3 => k_dflt first | exact rfl); (case hm => first | (repeat (first | exact List.mem_cons_self | refine List.mem_cons_of_mem _ ?_))); intro h9 tk9 m9 news9 F9 N9))
set_option maxRecDepth 100000 in
set_option maxHeartbeats 8000000 in
theorem PySem.Challenge.cw_on0110_01_holds : PySem.Challenge.rw_on0110_01.Holds := by
  w_on
  refine holds_law Mine.law_said fun said => ?_
  refine holds_open (q := Mine.view) (loose := [Str.ofString "strength_text"]) (Xt := fun s => xlAt Mine.view [] s && recOk (RowW.records (OpenRow.toRowW PySem.Challenge.rw_on0110_01.row)) s) (XP := XL Mine.view []) (Yf := Hook.obs (kHook Mine.frag Mine.addrs Mine.addrs_eq)) (Ya := Hook.val (kHook Mine.frag Mine.addrs Mine.addrs_eq)) (YP := Hook.says (kHook Mine.frag Mine.addrs Mine.addrs_eq)) (N := 1778) ?hl (Hook.of _) (Hook.keeps _) (fun s e => xl_of s (Bool.and_eq_true_iff.mp e).1) XL.keeps (by rfl) (by rfl) (by rfl) (fun s e => recFacts_of (Bool.and_eq_true_iff.mp e).2) (by rfl) (by first | assumption | decide +kernel) (by decide +kernel) ⟨rfl, rfl, rfl, rfl, rfl, by decide +kernel⟩ ?hw ?hc
  case hw => w_witness2
  case hl => intro w; kernel_rfl
  (try clear said)
  k_go0
  all_goals try k_fold
  (with_reducible rename Frag.In _ _ => KX0)
  refine Mine.with_kok KX0 (Mine.kok _) ?_
  intro KO
  k_steps
