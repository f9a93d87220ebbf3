import PyProof.Rows.All
import Wide.All
import OpenK.AllK
import Wide.FinOn
import PySem.Challenge.RW_pb0275_01
set_option Elab.async false
set_option maxRecDepth 100000
set_option genInjectivity false
set_option genSizeOf false
set_option bootstrap.genMatcherCode false
set_option tactic.hygienic false
-- Pre
namespace Mine
theorem ft {G : Prop} (h : false = true) : G := Bool.noConfusion h
theorem tf {G : Prop} (h : true = false) : G := Bool.noConfusion h
theorem ns {α : Type} {a : α} {G : Prop} (h : none = some a) : G := ft (congrArg Option.isSome h)
theorem sn {α : Type} {a : α} {G : Prop} (h : some a = none) : G := tf (congrArg Option.isSome h)
theorem mb {γ : Type} {x : Bool} {f n r : γ} {G : Prop} (k1 : x = true → f = r → G) (k2 : x = false → n = r → G) : (match (generalizing := false) x with | true => f | false => n) = r → G :=
  match x, k1, k2 with
  | true, k1, _ => k1 rfl
  | false, _, k2 => k2 rfl
end Mine

section -- Said
open PySem PySem.W PyProof.Rows
set_option maxHeartbeats 0
namespace Mine
noncomputable abbrev P : Program := PySem.Challenge.pw_pb0275_01
noncomputable abbrev lk0 : Look := { strict := false, foot := none, bare := [] }
theorem b1 : (!readsOut P P.main.body "vars") = true := by decide +kernel
theorem b2 : (!readsOut P P.main.body "dir") = true := by decide +kernel
theorem b3 : (!readsOut P P.main.body "locals") = true := by decide +kernel
theorem bb : (["vars", "dir", "locals"] : List PySem.Str).filter (readsOut P P.main.body) = [] := by
  have h1 := b1; have h2 := b2; have h3 := b3
  rw [Bool.not_eq_true'] at h1 h2 h3
  rw [List.filter_cons_of_neg (by rw [h1]; decide), List.filter_cons_of_neg (by rw [h2]; decide), List.filter_cons_of_neg (by rw [h3]; decide)]
  rfl
theorem bs : (!(importedModules P.main.body).all cThrough.contains) = false := by rfl
theorem nr_append (lk : Look) (a b : List Stmt) : noRoadLSs lk (a ++ b) = (noRoadLSs lk a && noRoadLSs lk b) := by
  induction a with
  | nil => rfl
  | cons s r ih => show (noRoadLS lk s && noRoadLSs lk (r ++ b)) = _; rw [ih, ← Bool.and_assoc]; rfl
theorem lit_cps (s : String) (cs : List Char) (h : s = String.ofList cs) : PySem.Str.ofString s = ⟨(cs.map Char.toNat).toArray⟩ := by
  subst h
  rw [PySem.Str.ofString_eq_toList, String.toList_ofList]
noncomputable def strOf : Stmt → PySem.Str
  | PySem.Stmt.Assign _ (PySem.Expr.Constant (PySem.Const.str s) _ _) _ => s
  | _ => default
noncomputable def resv : PySem.Str := strOf (P.main.body.getD 56 default)
noncomputable def isGood (c : Nat) : Bool := c != 46 && c != 123 && c != 125
theorem resv_lit : ∃ s cs, resv = PySem.Str.ofString s ∧ s = String.ofList (' ' :: cs) ∧ (cs.map Char.toNat).all isGood = true :=
  ⟨_, _, rfl, rfl, by decide +kernel⟩

theorem frames_head : frameAttrs.all (fun a => a.cps.toList.head? != some 32) = true := by decide +kernel
theorem good_word (l : List Nat) : lk0.word ⟨(32 :: l).toArray⟩ = true := by
  have h1 : frameAttrs.contains (⟨(32 :: l).toArray⟩ : PySem.Str) = false := by
    rw [Bool.eq_false_iff]
    intro hc
    have hm := List.contains_iff_mem.mp hc
    have := List.all_eq_true.mp frames_head _ hm
    simp at this
  have h2 : PySem.Str.opensWith ⟨(32 :: l).toArray⟩ "__" = false := by
    rw [Bool.eq_false_iff]
    intro hc
    unfold PySem.Str.opensWith at hc
    have e := congrArg Array.toList (beq_iff_eq.mp hc)
    have e2 : (PySem.Str.ofString "__").cps.toList = [95, 95] := by decide +kernel
    have e3 : (PySem.Str.ofString "__").cps.size = 2 := by decide +kernel
    rw [e2, e3] at e
    simp at e
  unfold Look.word attrL
  rw [h1, h2]
  rfl
theorem good_road (l : List Nat) (h : l.all isGood = true) : roadStr ⟨(32 :: l).toArray⟩ = false := by
  have a : ∀ (p : Nat → Bool), p 32 = false → (∀ c, isGood c = true → p c = false) → (Array.any (32 :: l).toArray p) = false := by
    intro p hp hq
    rw [Bool.eq_false_iff]
    intro hc
    rw [List.any_toArray'] at hc
    · rw [List.any_eq_true] at hc
      obtain ⟨x, hx, px⟩ := hc
      rcases List.mem_cons.mp hx with rfl | hx
      · rw [hp] at px; (first | exact Mine.ns px | exact Mine.ft px | exact Mine.sn px | exact Mine.tf px | cases px)
      · rw [hq x (List.all_eq_true.mp h x hx)] at px; (first | exact Mine.ns px | exact Mine.ft px | exact Mine.sn px | exact Mine.tf px | cases px)
    · simp
  unfold roadStr
  rw [a _ rfl (fun c hc => by simp [isGood] at hc; simp [hc]), a _ rfl (fun c hc => by simp [isGood] at hc; simp [hc])]
  rfl
theorem good_str (l : List Nat) (h : l.all isGood = true) : lk0.str ⟨(32 :: l).toArray⟩ = true := by
  unfold Look.str
  rw [good_word l, good_road l h, Bool.or_true]
  rfl
theorem resv_good : lk0.str resv = true := by
  obtain ⟨s, cs, e, h, g⟩ := resv_lit
  rw [e, lit_cps s _ h, List.map_cons]
  exact good_str _ g
theorem nrAssign (lk : Look) (ts : List Expr) (s : PySem.Str) (k p q) (h1 : lk.stores ts = true) (h2 : noRoadLs lk ts = true) (h3 : lk.str s = true) : noRoadLS lk (PySem.Stmt.Assign ts (PySem.Expr.Constant (PySem.Const.str s) k p) q) = true := by
  have e : noRoadLS lk (PySem.Stmt.Assign ts (PySem.Expr.Constant (PySem.Const.str s) k p) q) = (lk.stores ts && noRoadLs lk ts && lk.str s) := by rfl
  rw [e, h1, h2, h3]; rfl
noncomputable def tgtOf : Stmt → List Expr
  | PySem.Stmt.Assign ts _ _ => ts
  | _ => []
noncomputable def kOf : Stmt → Nat × Pos × Pos
  | PySem.Stmt.Assign _ (PySem.Expr.Constant _ k p) q => (k, p, q)
  | _ => (0, default, default)
noncomputable abbrev st56 : Stmt := P.main.body.getD 56 default
theorem st56_is : st56 = PySem.Stmt.Assign (tgtOf st56) (PySem.Expr.Constant (PySem.Const.str resv) (kOf st56).1 (kOf st56).2.1) (kOf st56).2.2 := by kernel_rfl
theorem t56a : lk0.stores (tgtOf st56) = true := by decide +kernel
theorem t56b : noRoadLs lk0 (tgtOf st56) = true := by decide +kernel
theorem n56 : noRoadLS lk0 st56 = true := by
  rw [st56_is]
  exact nrAssign _ _ _ _ _ _ t56a t56b resv_good
theorem nA : noRoadLSs lk0 (P.main.body.take 56) = true := by decide +kernel
theorem nB : noRoadLSs lk0 (P.main.body.drop 57) = true := by decide +kernel
theorem cutAt {α : Type} (d : α) : ∀ (n : Nat) (b : List α), n < b.length → b = b.take n ++ (b.getD n d :: b.drop (n + 1))
  | _, [], h => absurd h (by simp)
  | 0, x :: r, _ => by simp
  | n + 1, x :: r, h => by
    have := cutAt d n r (by simpa using h)
    show x :: r = x :: (r.take n ++ (r.getD n d :: r.drop (n + 1)))
    rw [← this]
theorem len_ok : 56 < P.main.body.length := by decide +kernel
theorem nr : noRoadLSs lk0 P.main.body = true := by
  have e : P.main.body = P.main.body.take 56 ++ (st56 :: P.main.body.drop 57) := cutAt default 56 P.main.body len_ok
  rw [e, nr_append, nA]
  show (true && (noRoadLS lk0 _ && noRoadLSs lk0 _)) = true
  rw [n56, nB]; rfl
theorem nr_of (strict : Bool) (bare : List PySem.Str) (hs : strict = false) (hb : bare = []) : noRoadLSs { strict := strict, foot := none, bare := bare } P.main.body = true := by
  subst hs hb; exact nr
theorem said : PySem.Challenge.rw_pb0275_01.wellSaid = true := by
  delta OpenLaw.wellSaid OpenRow.wellSaid OpenRow.partSaid looksOpen
  repeat' (with_reducible refine look_both ?_ ?_)
  all_goals first
    | ((with_reducible show noRoadLSs (Look.mk _ none _ _ _ _ _ _ _ _) _ = true); exact nr_of _ _ bs bb)
    | decide +kernel
    | fail "leaf"
end Mine

end
section -- Ev
namespace Mine
open PySem


/-! ## values -/
inductive V where
  | none | bool (b : Bool) | int (i : Int) | str (s : Str)
  | tup (l : List V) | lst (l : List V) | obj (C : Addr) (ns : List Str) (vs : List V)
  | nm (k : Nat) | off (k : Nat) (d : Int) | loc (n : Nat) | val (v : Value)
  | bi (k : Nat) | rng (a b : Int)
  | clo (ps : List Str) (body : Expr) (sc : Scope)
  | any
inductive MO where
  | lst (l : List V) | obj (C : Addr) (ns : List Str) (vs : List V) | abs (t : Nat) (d : List V) | dead

noncomputable def leq : List Nat → List Nat → Bool
  | [], [] => true
  | a :: r, b :: q => match Nat.beq a b with | true => leq r q | false => false
  | _, _ => false
noncomputable def seq (a b : Str) : Bool := leq a.cps.toList b.cps.toList
noncomputable def slook {α : Type} (x : Str) : List (Str × α) → Option α
  | [] => none
  | p :: r => match seq p.1 x with | true => some p.2 | false => slook x r
noncomputable def sput {α : Type} (x : Str) (v : α) : List (Str × α) → List (Str × α)
  | [] => [(x, v)]
  | p :: r => match seq p.1 x with | true => (p.1, v) :: r | false => p :: sput x v r
noncomputable def flook (x : Str) : List Str → List V → Option V
  | n :: ns, v :: vs => match seq n x with | true => some v | false => flook x ns vs
  | _, _ => none
noncomputable def fput (x : Str) (y : V) : List Str → List V → List Str × List V
  | n :: ns, v :: vs => match seq n x with
    | true => (n :: ns, y :: vs)
    | false => ((n :: (fput x y ns vs).1), (v :: (fput x y ns vs).2))
  | _, _ => ([x], [y])
set_option backward.match.sparseCases false in
noncomputable def ieq (a b : Int) : Bool := match a, b with
  | .ofNat m, .ofNat n => Nat.beq m n
  | .negSucc m, .negSucc n => Nat.beq m n
  | _, _ => false
noncomputable def ilt (a b : Int) : Bool := match a, b with
  | .ofNat m, .ofNat n => Nat.blt m n
  | .ofNat _, .negSucc _ => false
  | .negSucc _, .ofNat _ => true
  | .negSucc m, .negSucc n => Nat.blt n m
noncomputable def intOf : V → Option Int
  | .int i => some i
  | _ => Option.none
noncomputable def strO : V → Option Str
  | .str x => some x
  | _ => Option.none
set_option backward.match.sparseCases false in
noncomputable def lstO : V → Option (List V)
  | .lst l => some l
  | _ => Option.none
noncomputable def tupOf : V → Option (List V)
  | .tup l => some l
  | _ => Option.none
noncomputable def isNoneV : V → Bool
  | .none => true
  | _ => false
noncomputable def nmOf : V → Option Nat
  | .nm k => some k
  | _ => Option.none
set_option backward.match.sparseCases false in
/-- the sorts of data that are never None -/
noncomputable def noneD : V → Option Bool
  | .none => some true
  | .int _ => some false
  | .str _ => some false
  | .tup _ => some false
  | .lst _ => some false
  | _ => Option.none
noncomputable def noneF (b : V) : Option Bool := match isNoneV b with
  | true => some false
  | false => Option.none
mutual
/-- Python's ==, where it is decided -/
noncomputable def veq (a b : V) : Option Bool := match a with
  | .none => noneD b
  | .int i => (match intOf b with | some j => some (ieq i j) | Option.none => noneF b)
  | .str x => (match strO b with | some y => some (seq x y) | Option.none => noneF b)
  | .tup l => (match tupOf b with | some q => veqs l q | Option.none => noneF b)
  | .lst l => (match lstO b with | some q => veqs l q | Option.none => noneF b)
  | .nm k => (match nmOf b with
    | some j => (match Nat.beq k j && Nat.ble 100 k with | true => some true | false => Option.none)
    | Option.none => Option.none)
  | _ => Option.none
noncomputable def veqs (l q : List V) : Option Bool := match l with
  | [] => some q.isEmpty
  | a :: r => (match q with
    | b :: q => (match veq a b with
      | some true => veqs r q
      | some false => some false
      | Option.none => Option.none)
    | [] => some false)
end
noncomputable def sleB : List Nat → List Nat → Bool
  | [], _ => true
  | _ :: _, [] => false
  | a :: r, b :: q => match Nat.blt a b with
    | true => true
    | false => match Nat.beq a b with | true => sleB r q | false => false
noncomputable def isPre : List Nat → List Nat → Bool
  | [], _ => true
  | _ :: _, [] => false
  | a :: r, b :: q => match Nat.beq a b with | true => isPre r q | false => false
noncomputable def hasSub (x : List Nat) : List Nat → Bool
  | [] => isPre x []
  | b :: q => match isPre x (b :: q) with | true => true | false => hasSub x q
noncomputable def subIdx (x : List Nat) : Nat → List Nat → Option Nat
  | n, [] => match isPre x [] with | true => some n | false => Option.none
  | n, b :: q => match isPre x (b :: q) with | true => some n | false => subIdx x (n + 1) q
/-- split at blanks (one blank is the separator) -/
noncomputable def splitB : List Nat → List Nat → List (List Nat)
  | acc, [] => [acc.reverse]
  | acc, c :: r => match Nat.beq c 32 with | true => acc.reverse :: splitB [] r | false => splitB (c :: acc) r

/-- the scopes whose lambdas are served -/
noncomputable def lamSc (sc : Scope) : Bool := match slook "depth" sc.names with
  | some .cell => true
  | _ => (match slook "words" sc.names, slook "tokens" sc.names with
    | some .local, some .local => true
    | _, _ => (match slook "keys" sc.names, slook "rows" sc.names with
      | some .cell, some .local => true
      | _, _ => false))
/-- one or two plain parameters -/
noncomputable def oneTwo (l : List Arg) : Bool := match l with
  | [] => false
  | _ :: r => (match r with
    | [] => true
    | _ :: q => q.isEmpty)
noncomputable def simpleArgs (a : Arguments) : Bool := ((a.posonlyargs.isEmpty && a.vararg.isNone) && (a.kwonlyargs.isEmpty && a.kw_defaults.isEmpty)) && ((a.kwarg.isNone && a.defaults.isEmpty) && oneTwo a.args)
noncomputable def okFree (sc lsc : Scope) : Bool := lsc.names.all fun q => match q.2 with
  | .free => (match slook q.1 sc.names with | some .cell => true | _ => false)
  | _ => true
noncomputable def isLoc (sc : Scope) (x : Str) : Bool := match slook x sc.names with | some .local => true | _ => false
noncomputable def cloOk (ps : List Str) (sc : Scope) : Bool := (match sc.kind with | .function => true | _ => false) && !sc.isCoroutine && !sc.isGenerator && !lamSc sc && ps.all (isLoc sc) && (match ps with | [a, b] => !(seq a b) | _ => true) &&
  sc.names.all fun q => !(seq q.1 "__debug__") && (match q.2 with | .cell => false | .free => false | _ => true)
/-! ## requests -/
structure St where
  l : List (Str × V)
  h : List MO
inductive Fl where | nx | ret (v : V)
inductive Req where
  | e (x : Expr) | t (x : Expr) | s (ss : List Stmt)
  | w (test : Expr) (body : List Stmt)
  | f (x : Str) (px : Pos) (items : List V) (body : List Stmt)
  | g (elt : Expr) (target : Expr) (tests : List Expr) (items : List V) (acc : List V)
  | c (f : V) (args : List V) (kw : Option V)
inductive Out where | v (x : V) | b (x : Bool) | f (x : Fl)
structure FR where
  name : Str
  ps : List Str
  ds : List V
  body : List Stmt
  sc : Scope
structure Par where
  sg : Addr → List V → List MO → Option (V × List MO)
  sd : Nat
  ft : Addr → Option FR
  gt : Str → Option V
  ci : Addr → Option (Addr × Bool)
  mt : Addr → Str → Option Addr
  fx : Nat → List V → Option V
  ck : Addr → Bool
  sa : Addr → Str → Bool
  dk : Addr → Option (List Str)
noncomputable abbrev Ev := Scope → Req → St → Option (Out × St)

noncomputable def locOf : V → Option Nat
  | .loc n => some n
  | _ => Option.none
set_option backward.match.sparseCases false in
noncomputable def offOf : V → Option (Nat × Int)
  | .off k d => some (k, d)
  | _ => Option.none
noncomputable def lstAt (h : List MO) (n : Nat) : Option (List V) := match h[n]? with
  | some (.lst l) => some l
  | _ => Option.none
/-- a list, made or in the heap -/
noncomputable def lstD (h : List MO) (a : V) : Option (List V) := match locOf a with
  | some n => lstAt h n
  | Option.none => lstO a
noncomputable def deref (h : List MO) (v : V) : V := match lstD h v with
  | some l => .lst l
  | Option.none => v
noncomputable def tv (_ : List MO) (v : V) : Option Bool := match v with
  | .bool b => some b
  | _ => Option.none
noncomputable def rngL : Nat → Int → List V
  | 0, _ => []
  | n + 1, a => .int a :: rngL n (a + 1)
noncomputable def small : Int → Bool
  | .ofNat n => Nat.blt n 1000000000
  | .negSucc n => Nat.blt n 1000000000
noncomputable def rngOf : V → Option (Int × Int)
  | .rng i j => some (i, j)
  | _ => Option.none
noncomputable def okL (l : List V) : Option (List V) := bif Nat.ble l.length 10000 then some l else Option.none
/-- what a thing holds that is run through, but for a list of the heap -/
noncomputable def itemsO (v : V) : Option (List V) := match rngOf v with
  | some (a, b) => bif small a && small b && Nat.ble (b - a).toNat 10000 then some (rngL (b - a).toNat a) else Option.none
  | Option.none => (match lstO v with
    | some l => okL l
    | Option.none => (match tupOf v with
      | some l => okL l
      | Option.none => (strO v).bind fun s => okL (s.cps.toList.map fun c => .str ⟨#[c]⟩)))
noncomputable def items (h : List MO) (v : V) : Option (List V × List MO) := match locOf v with
  | some n => (lstAt h n).bind fun l => (okL l).bind fun l => some (l, h.set n .dead)
  | Option.none => (itemsO v).bind fun l => some (l, h)
noncomputable def intV (o : Option Int) : Option V := o.map .int
noncomputable def natI : Int → Option Nat
  | .ofNat n => some n
  | _ => Option.none
noncomputable def divisor (v : V) : Option Nat := ((intOf v).bind natI).bind fun n => bif Nat.blt 0 n && Nat.blt n 1000000 then some n else Option.none
noncomputable def addV (h : List MO) (a b : V) : Option V := match intOf b with
  | some y => (match intOf a with
    | some x => bif small x && small y then some (.int (x + y)) else Option.none
    | Option.none => (offOf a).bind fun q => bif small q.2 && small y then some (.off q.1 (q.2 + y)) else Option.none)
  | Option.none => (match strO b with
    | some y => (strO a).bind fun x => bif Nat.ble (x.cps.toList.length + y.cps.toList.length) 10000 then some (.str ⟨(x.cps.toList ++ y.cps.toList).toArray⟩) else Option.none
    | Option.none => (lstD h a).bind fun x => (lstD h b).bind fun y => bif Nat.ble (x.length + y.length) 10000 then some (.lst (x ++ y)) else Option.none)
noncomputable def mulV (a b : V) : Option V := (intOf a).bind fun x => (intOf b).bind fun y => bif small x && small y then some (.int (x * y)) else Option.none
noncomputable def binV (h : List MO) (op : Operator) (a b : V) : Option V := match op with
  | .Add => addV h a b
  | .Mult => mulV a b
  | .Mod => (intOf a).bind fun x => (divisor b).bind fun n => some (.int (x.fmod (.ofNat n)))
  | .FloorDiv => (intOf a).bind fun x => (divisor b).bind fun n => some (.int (x.fdiv (.ofNat n)))
  | _ => Option.none
noncomputable def strOkL : List Nat → Bool
  | [] => true
  | c :: r => match Nat.blt c 1114112 with | true => strOkL r | false => false
mutual
/-- data, to a depth -/
noncomputable def isD (n : Nat) (d : V) : Bool := match d with
  | .none => true
  | .int _ => true
  | .str x => strOkL x.cps.toList
  | .tup l => (match n with | 0 => false | m + 1 => isDs m l)
  | .lst l => (match n with | 0 => false | m + 1 => isDs m l)
  | .nm k => (match n with | 0 => false | _ + 1 => Nat.ble 100 k)
  | _ => false
noncomputable def isDs (n : Nat) (l : List V) : Bool := match l with
  | [] => true
  | d :: r => isD n d && isDs n r
end
noncomputable def anyEq (a : V) : List V → Option Bool
  | [] => some false
  | b :: r => match veq b a with
    | some true => some true
    | some false => anyEq a r
    | Option.none => Option.none
noncomputable def refO : V → Option Addr
  | .val (.ref d) => some d
  | _ => Option.none
noncomputable def vinL (a : V) (l : List V) : Option Bool := bif isD 8 a && isDs 8 l then anyEq a l else Option.none
noncomputable def vin (p : Par) (h : List MO) (a b : V) : Option Bool := match lstD h b with
  | some l => vinL a l
  | Option.none => (match tupOf b with
    | some l => vinL a l
    | Option.none => (strO a).bind fun x => (match strO b with
      | some y => some (hasSub x.cps.toList y.cps.toList)
      | Option.none => (refO b).bind fun d => (p.dk d).bind fun ks => some (ks.any (seq x))))
noncomputable def bOf : V → Option Bool
  | .bool b => some b
  | _ => Option.none
noncomputable def eqV (p : Par) (h : List MO) (a b : V) : Option Bool := match isD 8 (deref h a) && isD 8 (deref h b) with
  | true => veq (deref h a) (deref h b)
  | false => (p.fx 7 [deref h a, deref h b]).bind bOf
set_option backward.match.sparseCases false in
noncomputable def isRefV : V → Bool
  | .tup _ => true
  | .lst _ => true
  | .obj _ _ _ => true
  | .loc _ => true
  | .clo _ _ _ => true
  | .rng _ _ => true
  | _ => false
noncomputable def refVal (a : V) : Bool := (refO a).isSome
/-- is it None? -/
noncomputable def isV (a : V) : Option Bool := match isNoneV a with
  | true => some true
  | false => (match isRefV a || refVal a with
    | true => some false
    | false => (match nmOf a with
      | some k => (match Nat.ble 50 k && Nat.blt k 100 with | true => some false | false => Option.none)
      | Option.none => Option.none))
noncomputable def ltV (p : Par) (a b : V) : Option Bool := match intOf a, intOf b with
  | some x, some y => some (ilt x y)
  | _, _ => (p.fx 2 [a, b]).bind bOf
noncomputable def gtV (p : Par) (a b : V) : Option Bool := match intOf a, intOf b with
  | some x, some y => some (ilt y x)
  | _, _ => (p.fx 8 [a, b]).bind bOf
noncomputable def geV (a b : V) : Option Bool := match intOf a, intOf b with
  | some x, some y => some (!ilt x y)
  | _, _ => Option.none
noncomputable def leV (a b : V) : Option Bool := match strO a, strO b with
  | some x, some y => some (sleB x.cps.toList y.cps.toList)
  | _, _ => Option.none
noncomputable def isOp (a b : V) : Option Bool := match isNoneV b with
  | true => isV a
  | false => Option.none
noncomputable def cmpV (p : Par) (h : List MO) (op : CmpOp) (a b : V) : Option Bool := match op with
  | .Eq => eqV p h a b
  | .NotEq => (eqV p h a b).map (!·)
  | .Is => isOp a b
  | .IsNot => (isOp a b).map (!·)
  | .In => vin p h a b
  | .NotIn => (vin p h a b).map (!·)
  | .Lt => ltV p a b
  | .Gt => gtV p a b
  | .GtE => geV a b
  | .LtE => leV a b
noncomputable def nthV (l : List V) (n : Nat) : Option V := match Nat.blt n 10000 with
  | true => l[n]?
  | false => Option.none
noncomputable def subV (p : Par) (h : List MO) (o i : V) : Option V := match (intOf i).bind natI with
  | some n => (match lstD h o with
    | some l => nthV l n
    | Option.none => (match tupOf o with
      | some l => nthV l n
      | Option.none => (match strO o with
        | some s => bif Nat.blt n 10000 then (s.cps.toList[n]?).map fun c => .str ⟨#[c]⟩ else Option.none
        | Option.none => p.fx 3 [o, i])))
  | Option.none => p.fx 3 [o, i]
noncomputable def sliceS (x : Str) (l u : Option Int) : Str :=
  match ((PySem.Builtin.Str.strSliceIndices l u 1 x.length).length == x.length) with
  | true => x
  | false => ⟨((PySem.Builtin.Str.strSliceIndices l u 1 x.length).filterMap (x.cps[·]?)).toArray⟩
noncomputable def intO : Option V → Option (Option Int)
  | Option.none => some Option.none
  | some (.int i) => some (some i)
  | _ => Option.none
noncomputable def sliceV (o : V) (a b : Option V) : Option V := match o, intO a, intO b with
  | .str s, some l, some u => (match Nat.ble (sliceS s l u).length 10000 with
    | true => some (.str (sliceS s l u))
    | false => Option.none)
  | _, _, _ => Option.none
noncomputable def asV : Option (Out × St) → Option (V × St)
  | some (.v x, s) => some (x, s)
  | _ => Option.none
noncomputable def asB : Option (Out × St) → Option (Bool × St)
  | some (.b x, s) => some (x, s)
  | _ => Option.none
noncomputable def asF : Option (Out × St) → Option (Fl × St)
  | some (.f x, s) => some (x, s)
  | _ => Option.none
noncomputable def nameV (p : Par) (sc : Scope) (st : St) (x : Str) : Option V := match slook x sc.names with
  | some .globalImplicit => p.gt x
  | some _ => slook x st.l
  | Option.none => Option.none
noncomputable def evs (ih : Ev) (sc : Scope) : List Expr → St → Option (List V × St)
  | [], st => some ([], st)
  | x :: r, st => match asV (ih sc (.e x) st) with
    | some (v, st) => (match evs ih sc r st with
      | some (vs, st) => some (v :: vs, st)
      | Option.none => Option.none)
    | Option.none => Option.none
/-- does «and», «or» end at this worth? -/
noncomputable def stops (op : BoolOp) (b : Bool) : Bool := match op with
  | .And => !b
  | .Or => b
noncomputable def boolV (ih : Ev) (sc : Scope) (op : BoolOp) : List Expr → St → Option (V × St)
  | [], _ => Option.none
  | x :: r, st => match asV (ih sc (.e x) st) with
    | some (v, st) => (match r.isEmpty with
      | true => some (v, st)
      | false => (match tv st.h v with
        | some b => (match stops op b with
          | true => some (v, st)
          | false => boolV ih sc op r st)
        | Option.none => Option.none))
    | Option.none => Option.none
noncomputable def boolT (ih : Ev) (sc : Scope) (op : BoolOp) : List Expr → St → Option (Bool × St)
  | [], st => some ((match op with | .And => true | .Or => false), st)
  | x :: r, st => match asB (ih sc (.t x) st) with
    | some (b, st) => (match op, b with
      | .And, false => some (false, st)
      | .Or, true => some (true, st)
      | _, _ => boolT ih sc op r st)
    | Option.none => Option.none
noncomputable def chain (p : Par) (ih : Ev) (sc : Scope) (a : V) : List CmpOp → List Expr → St → Option (Bool × St)
  | [], _, _ => Option.none
  | op :: ops, cs, st => match cs with
    | [] => Option.none
    | x :: xs => (match asV (ih sc (.e x) st) with
      | some (b, st) => (match cmpV p st.h op a b with
        | some r => (match ops.isEmpty with
          | true => (match xs.isEmpty with | true => some (r, st) | false => Option.none)
          | false => (match xs.isEmpty with
            | true => Option.none
            | false => (match r with
              | true => chain p ih sc b ops xs st
              | false => some (false, st))))
        | Option.none => Option.none)
      | Option.none => Option.none)
noncomputable def setAt (h : List MO) (n : Nat) (m : MO) : List MO := h.set n m
noncomputable def mayStore (sc : Scope) (x : Str) : Bool := match slook x sc.names with
  | some .local => true
  | some .cell => true
  | _ => false
noncomputable def isNamE (x : Expr) : Option Str := match x with
  | .Name y _ => some y
  | _ => Option.none
set_option backward.match.sparseCases false in
noncomputable def isTup : Expr → Option (List Expr)
  | .Tuple ts _ _ => some ts
  | _ => Option.none
set_option backward.match.sparseCases false in
noncomputable def isAtt : Expr → Option (Expr × Str × Pos)
  | .Attribute o a ap => some (o, a, ap)
  | _ => Option.none
noncomputable def storeNames (sc : Scope) : List Str → List V → List (Str × V) → Option (List (Str × V))
  | [], [], l => some l
  | x :: r, v :: vs, l => (match mayStore sc x with
    | true => storeNames sc r vs (sput x v l)
    | false => Option.none)
  | _, _, _ => Option.none
noncomputable def nmsE : List Expr → Option (List Str)
  | [] => some []
  | t :: r => (isNamE t).bind fun x => (nmsE r).bind fun ns => some (x :: ns)
noncomputable def assignNames (sc : Scope) (es : List Expr) (ds : List V) (l : List (Str × V)) : Option (List (Str × V)) := match nmsE es with
  | some ns => storeNames sc ns ds l
  | Option.none => Option.none
noncomputable def storeLoc (sc : Scope) : List Str → List V → List (Str × V) → Option (List (Str × V))
  | [], [], l => some l
  | x :: r, v :: vs, l => (match isLoc sc x with
    | true => storeLoc sc r vs (sput x v l)
    | false => Option.none)
  | _, _, _ => Option.none
noncomputable def assignLoc (sc : Scope) (es : List Expr) (ds : List V) (l : List (Str × V)) : Option (List (Str × V)) := match nmsE es with
  | some ns => storeLoc sc ns ds l
  | Option.none => Option.none
noncomputable def storeC (sc : Scope) (t : Expr) (v : V) (l : List (Str × V)) : Option (List (Str × V)) := match isNamE t with
  | some x => (match isLoc sc x with
    | true => some (sput x v l)
    | false => Option.none)
  | Option.none => (match isTup t with
    | some es => (match tupOf v with
      | some vs => assignLoc sc es vs l
      | Option.none => Option.none)
    | Option.none => Option.none)
set_option backward.match.sparseCases false in
noncomputable def isComp : Expr → Bool
  | .ListComp .. => true
  | .SetComp .. => true
  | .DictComp .. => true
  | _ => false
noncomputable def isNam : Expr → Option (Str × Pos)
  | .Name x xp => some (x, xp)
  | _ => Option.none
noncomputable def nameK (kd : Str → Bool) (line : Nat) (x : Expr) : Option Str := match x with
  | .Name id pos => if (kd id && pos.line == line) = true then some id else Option.none
  | _ => Option.none
noncomputable def nameL (sc : Scope) (line : Nat) : Expr → Option Str := nameK (fun x => sc.names.lookup x == some .local) line
noncomputable def isStar : Expr → Bool
  | .Starred .. => true
  | _ => false
/-- which way a tuple of names is stored: in order, or from behind -/
noncomputable def swp (sc : Scope) (ts : List Expr) (vs : List Expr) : Option (Option (List Str)) :=
  if (!(ts.length == 2 || ts.length == 3) || vs.length != ts.length) = true then some Option.none
  else if vs.any isStar = true then some Option.none
  else if ((ts.filterMap (nameL sc ((ts.head?.map (·.pos.line)).getD 0))).length != ts.length || (ts.filterMap (nameL sc ((ts.head?.map (·.pos.line)).getD 0))).eraseDups.length != (ts.filterMap (nameL sc ((ts.head?.map (·.pos.line)).getD 0))).length) = true then some Option.none
  else if vs.all (foldedForSure 8) = true then some Option.none
  else if vs.all (constantsAlone 8) = true then Option.none
  else some (some (ts.filterMap (nameL sc ((ts.head?.map (·.pos.line)).getD 0))))
noncomputable def putAttr (p : Par) (a : Str) (v : V) (n : Nat) (st : St) : Option St := match st.h[n]? with
  | some (.obj C ns vs) => (match p.sa C a && Nat.ble ns.length 100 with
    | true => some { st with h := setAt st.h n (.obj C (fput a v ns vs).1 (fput a v ns vs).2) }
    | false => Option.none)
  | _ => Option.none
noncomputable def assignV (p : Par) (ih : Ev) (sc : Scope) (t : Expr) (v : V) (st : St) : Option St := match isNamE t with
  | some x => (match mayStore sc x with
    | true => some { st with l := sput x v st.l }
    | false => Option.none)
  | Option.none => (match isAtt t with
    | some q => (match asV (ih sc (.e q.1) st) with
      | some (ov, st) => (match locOf ov with
        | some n => putAttr p q.2.1 v n st
        | Option.none => Option.none)
      | Option.none => Option.none)
    | Option.none => Option.none)
/-- an attribute that an object itself holds -/
noncomputable def ownV (p : Par) (C : Addr) (ns : List Str) (vs : List V) (a : Str) : Option V := match p.sa C a with
  | true => flook a ns vs
  | false => Option.none
noncomputable def attrV (p : Par) (h : List MO) (o : V) (a : Str) : Option V := match o with
  | .obj C ns vs => ownV p C ns vs a
  | .loc n => (match h[n]? with
    | some (.obj C ns vs) => ownV p C ns vs a
    | _ => Option.none)
  | _ => Option.none
noncomputable def allInts : List V → Option (List Int)
  | [] => some []
  | v :: r => (intOf v).bind fun i => (allInts r).bind fun l => some (i :: l)
noncomputable def insI (i : Int) : List Int → List Int
  | [] => [i]
  | j :: r => match ilt i j with | true => i :: j :: r | false => j :: insI i r
noncomputable def sortI : List Int → List Int
  | [] => []
  | i :: r => insI i (sortI r)
noncomputable def insK {α : Type} (i : Int) (v : α) : List (Int × α) → List (Int × α)
  | [] => [(i, v)]
  | j :: r => match ilt j.1 i with | true => j :: insK i v r | false => (i, v) :: j :: r
noncomputable def sortK {α : Type} : List (Int × α) → List (Int × α)
  | [] => []
  | i :: r => insK i.1 i.2 (sortK r)
set_option backward.match.sparseCases false in
/-- the key «the first of a tuple» -/
noncomputable def isSubE (x : Expr) : Option (Expr × Expr) := match x with
  | .Subscript a b _ => some (a, b)
  | _ => Option.none
noncomputable def isConE (x : Expr) : Option Const := match x with
  | .Constant k _ _ => some k
  | _ => Option.none
set_option backward.match.sparseCases false in
noncomputable def conInt (k : Const) : Option Int := match k with
  | .int i => some i
  | _ => Option.none
noncomputable def hdS (l : List Str) : Option Str := match l with
  | [] => Option.none
  | x :: r => bif r.isEmpty then some x else Option.none
noncomputable def keyB (ps : List Str) (body : Expr) : Option Str := (hdS ps).bind fun x => (isSubE body).bind fun q => (isNamE q.1).bind fun y => (isConE q.2).bind fun k => (conInt k).bind fun i => bif ieq i 0 && seq x y then some x else Option.none
set_option backward.match.sparseCases false in
noncomputable def keyClo (v : V) : Bool := match v with
  | .clo ps body sc => (match keyB ps body with
    | some x => cloOk [x] sc
    | Option.none => false)
  | _ => false
noncomputable def hdInt : List V → Option Int
  | [] => Option.none
  | d :: _ => intOf d
noncomputable def firstInts : List V → Option (List (Int × V))
  | [] => some []
  | v :: q => (tupOf v).bind fun l => (hdInt l).bind fun i => (firstInts q).bind fun ps => some ((i, v) :: ps)
noncomputable def strictK {α : Type} : List (Int × α) → Bool
  | [] => true
  | p :: r => r.all (fun q => ilt p.1 q.1) && strictK r
noncomputable def allStrs : List V → Option (List Str)
  | [] => some []
  | v :: r => (strO v).bind fun x => (allStrs r).bind fun l => some (x :: l)
noncomputable def idxS (x : Str) : Nat → List Str → Option Nat
  | _, [] => Option.none
  | n, b :: r => match seq b x with
    | true => some n
    | false => idxS x (n + 1) r
noncomputable def splitT : List (Str × List Str) := [("OR", ["OR"]), ("AND", ["AND"]), ("IS", ["IS"]), ("NOT", ["NOT"]), ("OF IN", ["OF", "IN"]), ("OF", ["OF"]), ("IN", ["IN"]), ("ALL", ["ALL"]), ("TO", ["TO"]), ("THAN", ["THAN"])]
noncomputable def isZero : V → Bool
  | .int (.ofNat n) => Nat.beq n 0
  | _ => false
set_option backward.match.sparseCases false in
noncomputable def seqLen (h : List MO) (v : V) : Option Nat := match lstD h v with
  | some l => some l.length
  | Option.none => (match tupOf v with
    | some l => some l.length
    | Option.none => (strO v).bind fun s => some s.cps.toList.length)
noncomputable def biLen (p : Par) (v : V) (st : St) : Option (V × St) := match seqLen st.h v with
  | some n => (match Nat.blt n 10000 with | true => some (.int (.ofNat n), st) | false => Option.none)
  | Option.none => (match p.fx 4 [v] with | some r => some (r, st) | Option.none => Option.none)
noncomputable def biRng1 (v : V) (st : St) : Option (V × St) := match intOf v with
  | some i => some (.rng 0 i, st)
  | Option.none => Option.none
noncomputable def biRng2 (a b : V) (st : St) : Option (V × St) := match intOf a with
  | some i => (match intOf b with | some j => some (.rng i j, st) | Option.none => Option.none)
  | Option.none => Option.none
noncomputable def biSort (v : V) (st : St) : Option (V × St) := match lstD st.h v with
  | some l => (match allInts l with
    | some is => (match Nat.blt l.length 64 with | true => some (.lst ((sortI is).map .int), st) | false => Option.none)
    | Option.none => Option.none)
  | Option.none => Option.none
noncomputable def biSortK (v f : V) (st : St) : Option (V × St) := match lstD st.h v with
  | some l => (match firstInts l with
    | some ps => (match keyClo f && Nat.blt l.length 64 && strictK (sortK ps) with
      | true => some (.lst ((sortK ps).map (·.2)), st)
      | false => Option.none)
    | Option.none => Option.none)
  | Option.none => Option.none
noncomputable def biList (v : V) (st : St) : Option (V × St) := match rngOf v with
  | some (a, b) => (match small a && small b && Nat.ble (b - a).toNat 10000 with
    | true => some (.lst (rngL (b - a).toNat a), st)
    | false => Option.none)
  | Option.none => Option.none
noncomputable def biTup (v : V) (st : St) : Option (V × St) := match lstD st.h v with
  | some l => (match Nat.blt l.length 10000 with | true => some (.tup l, st) | false => Option.none)
  | Option.none => Option.none
noncomputable def biStr (p : Par) (v : V) (st : St) : Option (V × St) := match p.fx 5 [v] with
  | some r => some (r, st)
  | Option.none => Option.none
noncomputable def biApp (o x : V) (st : St) : Option (V × St) := match locOf o with
  | some n => (match lstAt st.h n with
    | some l => (match Nat.blt l.length 10000 with
      | true => some (.none, { st with h := setAt st.h n (.lst (l ++ [x])) })
      | false => Option.none)
    | Option.none => Option.none)
  | Option.none => Option.none
noncomputable def idxO (l : List V) (x : Str) : Option Nat := match allStrs l with
  | some ss => idxS x 0 ss
  | Option.none => Option.none
noncomputable def biIdx (o x : V) (st : St) : Option (V × St) := match lstD st.h o, strO x with
  | some l, some x => (match idxO l x, Nat.blt l.length 10000 with
    | some i, true => some (.int i, st)
    | _, _ => Option.none)
  | _, _ => Option.none
noncomputable def biSpl (a b : V) (st : St) : Option (V × St) := match strO a, strO b with
  | some s, some x => (match seq x " " with
    | true => (match slook s splitT with
      | some ws => some (.lst (ws.map .str), st)
      | Option.none => Option.none)
    | false => Option.none)
  | _, _ => Option.none
noncomputable def biFnd (a b : V) (st : St) : Option (V × St) := match strO a, strO b with
  | some s, some x => (match subIdx x.cps.toList 0 s.cps.toList with
    | some i => some (.int i, st)
    | Option.none => Option.none)
  | _, _ => Option.none
noncomputable def popV (o i : V) (st : St) : Option (V × St) := match locOf o, isZero i with
  | some n, true => (match lstAt st.h n with
    | some l => (match l, Nat.blt l.length 10000 with
      | x :: r, true => some (x, { st with h := setAt st.h n (.lst r) })
      | _, _ => Option.none)
    | Option.none => Option.none)
  | _, _ => Option.none
noncomputable def bi1 (p : Par) (k : Nat) (v : V) (st : St) : Option (V × St) := match Nat.beq k 0 with
  | true => biLen p v st
  | false => (match Nat.beq k 1 with
    | true => biRng1 v st
    | false => (match Nat.beq k 2 with
      | true => biSort v st
      | false => (match Nat.beq k 3 with
        | true => biList v st
        | false => (match Nat.beq k 4 with
          | true => biTup v st
          | false => (match Nat.beq k 5 with
            | true => biStr p v st
            | false => Option.none)))))
noncomputable def bi2 (k : Nat) (a b : V) (st : St) : Option (V × St) := match Nat.beq k 1 with
  | true => biRng2 a b st
  | false => (match Nat.beq k 10 with
    | true => biApp a b st
    | false => (match Nat.beq k 11 with
      | true => biIdx a b st
      | false => (match Nat.beq k 12 with
        | true => biSpl a b st
        | false => (match Nat.beq k 13 with
          | true => biFnd a b st
          | false => (match Nat.beq k 14 with
            | true => popV a b st
            | false => Option.none)))))
noncomputable def biCall (p : Par) (k : Nat) (args : List V) (kw : Option V) (st : St) : Option (V × St) := match args with
  | [v] => (match kw with
    | Option.none => bi1 p k v st
    | some f => (match Nat.beq k 2 with | true => biSortK v f st | false => Option.none))
  | [a, b] => (match kw with
    | Option.none => bi2 k a b st
    | some _ => Option.none)
  | _ => Option.none
/-- what a method's name finds: the callable, and whether the object goes first -/
noncomputable def methT (p : Par) (h : List MO) (o : V) (a : Str) : Option (V × Bool) := match o with
  | .loc n => (match h[n]? with
    | some (.obj C ns vs) => (match flook a ns vs with
      | some f => (match p.sa C a with | true => some (f, false) | false => Option.none)
      | Option.none => (match p.mt C a with
        | some f => some (.val (.ref f), true)
        | Option.none => Option.none))
    | some (.lst _) => (match seq a "append" with
      | true => some (.bi 10, true)
      | false => (match seq a "index" with
        | true => some (.bi 11, true)
        | false => (match seq a "pop" with | true => some (.bi 14, true) | false => Option.none)))
    | _ => Option.none)
  | .lst _ => (match seq a "index" with | true => some (.bi 11, true) | false => Option.none)
  | .str _ => (match seq a "split" with
      | true => some (.bi 12, true)
      | false => (match seq a "index" with | true => some (.bi 13, true) | false => Option.none))
  | _ => Option.none
noncomputable def zipL : List Str → List V → List (Str × V)
  | n :: ns, v :: vs => (n, v) :: zipL ns vs
  | _, _ => []
noncomputable def bindA (r : FR) (args : List V) : Option (List (Str × V)) :=
  match Nat.ble args.length r.ps.length && Nat.ble r.ps.length (args.length + r.ds.length) with
  | true => some (zipL r.ps (args ++ r.ds.drop (r.ds.length - (r.ps.length - args.length))))
  | false => Option.none
noncomputable def noneFl : Fl → Bool
  | .nx => true
  | .ret .none => true
  | _ => false
noncomputable def callV (p : Par) (d : Nat) (ih : Ev) (f : V) (args : List V) (kw : Option V) (st : St) : Option (V × St) := match f with
  | .bi k => biCall p k args kw st
  | .clo ps body sc => (match Nat.beq ps.length args.length && cloOk ps sc with
    | true => (match asV (ih sc (.e body) ⟨zipL ps args, st.h⟩) with
      | some (v, st') => some (v, ⟨st.l, st'.h⟩)
      | Option.none => Option.none)
    | false => Option.none)
  | .val (.ref a) => (match (match Nat.ble p.sd d with | true => p.sg a args st.h | false => Option.none) with
    | some (v, h) => some (v, ⟨st.l, h⟩)
    | Option.none => (match p.ci a with
      | some (i, fz) => (match p.ft i with
        | some r => (match bindA r (.loc st.h.length :: args) with
          | some l => (match asF (ih r.sc (.s r.body) ⟨l, st.h ++ [.obj a [] []]⟩) with
            | some (fl, st') => (match noneFl fl, fz with
              | true, true => (match st'.h[st.h.length]? with
                | some (.obj C ns vs) => some (.obj C ns vs, ⟨st.l, st'.h.set st.h.length .dead⟩)
                | _ => Option.none)
              | true, false => some (.loc st.h.length, ⟨st.l, st'.h⟩)
              | false, _ => Option.none)
            | Option.none => Option.none)
          | Option.none => Option.none)
        | Option.none => Option.none)
      | Option.none => (match p.ft a with
        | some r => (match bindA r args with
          | some l => (match asF (ih r.sc (.s r.body) ⟨l, st.h⟩) with
            | some (.nx, st') => some (.none, ⟨st.l, st'.h⟩)
            | some (.ret v, st') => some (v, ⟨st.l, st'.h⟩)
            | Option.none => Option.none)
          | Option.none => Option.none)
        | Option.none => Option.none)))
  | _ => Option.none
set_option backward.match.sparseCases false in
noncomputable def constV : Const → Option V
  | .none => some .none
  | .bool b => some (.bool b)
  | .int i => some (.int i)
  | .str s => some (.str s)
  | _ => Option.none
noncomputable def outV (o : Option (V × St)) : Option (Out × St) := match o with
  | some (v, st) => some (.v v, st)
  | Option.none => Option.none
noncomputable def outB (o : Option (Bool × St)) : Option (Out × St) := match o with
  | some (v, st) => some (.b v, st)
  | Option.none => Option.none
noncomputable def argNames (a : Arguments) : List Str := a.args.map (·.arg)
noncomputable def optV (ih : Ev) (sc : Scope) : Option Expr → St → Option (Option V × St)
  | Option.none, st => some (Option.none, st)
  | some x, st => match asV (ih sc (.e x) st) with
    | some (v, st) => some (some v, st)
    | Option.none => Option.none
noncomputable def compVars (sc : Scope) (l : List (Str × V)) : List (Str × V) := l.filter fun q => match slook q.1 sc.names with
  | some .free => true
  | _ => false
noncomputable def bound (x : Str) (l : List (Str × V)) : Bool := match slook x l with | some _ => true | Option.none => false
/-- the scope of a comprehension is as it should be, and its free names are cells with worths -/
noncomputable def okComp (sc csc : Scope) (l : List (Str × V)) : Bool :=
  (match csc.kind with | .function => true | _ => false) && !lamSc csc && csc.names.all fun q => !(seq q.1 "__debug__") && !(seq q.1 "__classdict__") && (match q.2 with
    | .cell => false
    | .local => (match slook q.1 csc.names with | some .local => true | _ => false)
    | .free => bound q.1 l && (match slook q.1 sc.names with | some .cell => true | some .free => true | _ => false)
    | _ => true)
noncomputable def hasFree (sc : Scope) : Bool := sc.names.any fun q => match q.2 with | .free => true | _ => false
noncomputable def compV (ih : Ev) (sc : Scope) (elt target it : Expr) (ts : List Expr) (csc : Scope) (st : St) : Option (V × St) := match asV (ih sc (.e it) st) with
  | some (iv, st) => (match okComp sc csc st.l, items st.h iv with
    | true, some (vs, h) => (match ih csc (.g elt target ts vs []) ⟨compVars csc st.l, h⟩ with
      | some (.v v, st') => some (v, ⟨st.l, st'.h⟩)
      | _ => Option.none)
    | _, _ => Option.none)
  | Option.none => Option.none
/-- no call of a bare name without arguments stands ahead of an attribute -/
noncomputable def plainBase : Expr → Bool
  | .Call (.Name _ _) [] [] _ => false
  | _ => true
noncomputable def calB (p : Par) : V → Bool
  | .bi _ => true
  | .clo _ _ _ => true
  | .val (.ref a) => p.ck a
  | _ => false
/-! ## the kinds of expressions that are served -/
inductive EK where
  | const (k : Const) | name (x : Str) | tup (es : List Expr) | nil | lst (e : Expr) (es : List Expr) | dict
  | bin (l : Expr) (op : Operator) (r : Expr) | nt (x : Expr) | neg (x : Expr) | bool (op : BoolOp) (vs : List Expr) | ifx (t b o : Expr)
  | cmp (l : Expr) (ops : List CmpOp) (cs : List Expr)
  | meth (o : Expr) (a : Str) (ap : Pos) (args : List Expr) (ps : Pos)
  | call (f : Expr) (args : List Expr)
  | key (fx : Str) (fp : Pos) (args : List Expr) (kn : Str) (kx : Expr)
  | att (o : Expr) (a : Str)
  | slc (x : Str) (xp : Pos) (a b : Option Expr)
  | sub (o i : Expr)
  | comp (elt target it : Expr) (ts : List Expr) (csc : Scope)
  | lam (a : Arguments) (b : Expr) (lsc : Scope)
  | no
set_option backward.match.sparseCases false in
noncomputable def isSlc : Expr → Option (Option Expr × Option Expr × Option Expr)
  | .Slice a b c _ => some (a, b, c)
  | _ => Option.none
noncomputable def kLst : List Expr → EK
  | [] => .nil
  | e :: es => .lst e es
noncomputable def kDict : List (Option Expr) → List Expr → EK
  | [], [] => .dict
  | _, _ => .no
set_option backward.match.sparseCases false in
noncomputable def kUn (op : UnaryOp) (x : Expr) : EK := match op with
  | .Not => .nt x
  | .USub => .neg x
  | _ => .no
noncomputable def kKey (f : Expr) (args : List Expr) (k : Option Str) (kx : Expr) : EK := match k with
  | some kn => (match isNam f with
    | some (fx, fp) => .key fx fp args kn kx
    | Option.none => .no)
  | Option.none => .no
noncomputable def kCall (f : Expr) (args : List Expr) (ks : List Keyword) (ps : Pos) : EK := match ks with
  | [] => (match isAtt f with
    | some (o, a, ap) => .meth o a ap args ps
    | Option.none => .call f args)
  | [k] => kKey f args k.arg k.value
  | _ => .no
noncomputable def kSub (o i : Expr) : EK := match isSlc i with
  | Option.none => .sub o i
  | some (a, b, Option.none) => (match isNam o with
    | some (x, xp) => .slc x xp a b
    | Option.none => .no)
  | some (_, _, some _) => .no
noncomputable def kComp (elt : Expr) (gs : List Comprehension) (csc : Scope) : EK := match gs with
  | [g] => (match g.is_async with
    | .ofNat 0 => .comp elt g.target g.iter g.ifs csc
    | _ => .no)
  | _ => .no
set_option backward.match.sparseCases false in
noncomputable def kindE : Expr → EK
  | .Constant k _ _ => .const k
  | .Name x _ => .name x
  | .Tuple es _ _ => .tup es
  | .List es _ => kLst es
  | .Dict ks vs _ => kDict ks vs
  | .BinOp l op r _ => .bin l op r
  | .UnaryOp op x _ => kUn op x
  | .BoolOp op vs _ => .bool op vs
  | .IfExp t b o _ => .ifx t b o
  | .Compare l ops cs _ => .cmp l ops cs
  | .Call f args ks ps => kCall f args ks ps
  | .Attribute o a _ => .att o a
  | .Subscript o i _ => kSub o i
  | .ListComp elt gs csc _ => kComp elt gs csc
  | .Lambda a b lsc _ => .lam a b lsc
  | _ => .no
noncomputable def evE (p : Par) (ih : Ev) (sc : Scope) (st : St) (x : Expr) : Option (Out × St) := match kindE x with
  | .const k => (match constV k with | some v => some (.v v, st) | Option.none => Option.none)
  | .name x => (match nameV p sc st x with | some v => some (.v v, st) | Option.none => Option.none)
  | .tup es => (match Nat.ble es.length 1000 with
    | true => (match evs ih sc es st with | some (vs, st) => some (.v (.tup vs), st) | Option.none => Option.none)
    | false => Option.none)
  | .nil => some (.v (.loc st.h.length), { st with h := st.h ++ [.lst []] })
  | .lst e es => (match Nat.ble es.length 1000 with
    | true => (match evs ih sc (e :: es) st with | some (vs, st) => some (.v (.lst vs), st) | Option.none => Option.none)
    | false => Option.none)
  | .dict => some (.v .any, st)
  | .bin l op r => (match asV (ih sc (.e l) st) with
    | some (a, st) => (match asV (ih sc (.e r) st) with
      | some (b, st) => (match binV st.h op a b with | some v => some (.v v, st) | Option.none => Option.none)
      | Option.none => Option.none)
    | Option.none => Option.none)
  | .nt x => (match asV (ih sc (.e x) st) with
    | some (v, st) => (match tv st.h v with | some b => some (.v (.bool (!b)), st) | Option.none => Option.none)
    | Option.none => Option.none)
  | .neg x => (match asV (ih sc (.e x) st) with
    | some (.int i, st) => some (.v (.int (-i)), st)
    | _ => Option.none)
  | .bool op vs => outV (boolV ih sc op vs st)
  | .ifx t b o => (match asB (ih sc (.t t) st) with
    | some (true, st) => ih sc (.e b) st
    | some (false, st) => ih sc (.e o) st
    | Option.none => Option.none)
  | .cmp l ops cs => (match lastMarks ops cs with
    | false => (match asV (ih sc (.e l) st) with
      | some (a, st) => (match chain p ih sc a ops cs st with | some (b, st) => some (.v (.bool b), st) | Option.none => Option.none)
      | Option.none => Option.none)
    | true => Option.none)
  | .meth o a ap args ps => (match plainBase o && Nat.ble args.length 20 && Nat.beq ap.endLine ps.line with
    | true => (match asV (ih sc (.e o) st) with
      | some (ov, st) => (match methT p st.h ov a with
        | some (f, first) => (match calB p f with
          | true => (match evs ih sc args st with
            | some (vs, st) => ih sc (.c f (match first with | true => ov :: vs | false => vs) Option.none) st
            | Option.none => Option.none)
          | false => Option.none)
        | Option.none => Option.none)
      | Option.none => Option.none)
    | false => Option.none)
  | .call f args => (match Nat.ble args.length 20 with
    | true => (match asV (ih sc (.e f) st) with
      | some (fv, st) => (match calB p fv with
        | true => (match evs ih sc args st with
          | some (vs, st) => ih sc (.c fv vs Option.none) st
          | Option.none => Option.none)
        | false => Option.none)
      | Option.none => Option.none)
    | false => Option.none)
  | .key fx fp args kn kx => (match seq kn "key" && Nat.beq args.length 1 with
    | false => Option.none
    | true => match asV (ih sc (.e (.Name fx fp)) st) with
    | some (fv, st) => (match calB p fv with
      | false => Option.none
      | true => match evs ih sc args st with
      | some (vs, st) => (match asV (ih sc (.e kx) st) with
        | some (kv, st) => ih sc (.c fv vs (some kv)) st
        | Option.none => Option.none)
      | Option.none => Option.none)
    | Option.none => Option.none)
  | .att o a => (match plainBase o with
    | true => (match asV (ih sc (.e o) st) with
      | some (ov, st) => (match attrV p st.h ov a with | some v => some (.v v, st) | Option.none => Option.none)
      | Option.none => Option.none)
    | false => Option.none)
  | .slc x xp a b => (match asV (ih sc (.e (.Name x xp)) st) with
    | some (ov, st) => (match optV ih sc a st with
      | some (av, st) => (match optV ih sc b st with
        | some (bv, st) => (match sliceV ov av bv with | some v => some (.v v, st) | Option.none => Option.none)
        | Option.none => Option.none)
      | Option.none => Option.none)
    | Option.none => Option.none)
  | .sub o i => (match asV (ih sc (.e o) st) with
    | some (ov, st) => (match asV (ih sc (.e i) st) with
      | some (iv, st) => (match subV p st.h ov iv with | some v => some (.v v, st) | Option.none => Option.none)
      | Option.none => Option.none)
    | Option.none => Option.none)
  | .comp elt target it ts csc => outV (compV ih sc elt target it ts csc st)
  | .lam a b lsc => (match lamSc sc && simpleArgs a && okFree sc lsc, hasFree lsc with
    | true, true => some (.v .any, st)
    | true, false => some (.v (.clo (argNames a) b lsc), st)
    | false, _ => Option.none)
  | .no => Option.none
/-! ## the kinds of tests -/
inductive TK where
  | nt (x : Expr) | bool (op : BoolOp) (vs : List Expr) | cmp (l : Expr) (ops : List CmpOp) (cs : List Expr) | no | val
noncomputable def kNot (op : UnaryOp) (x : Expr) : TK := match op with
  | .Not => .nt x
  | _ => .val
set_option backward.match.sparseCases false in
noncomputable def kindT (x : Expr) : TK := match x with
  | .UnaryOp op x _ => kNot op x
  | .BoolOp op vs _ => .bool op vs
  | .Compare l ops cs _ => .cmp l ops cs
  | .IfExp _ _ _ _ => .no
  | _ => .val
noncomputable def evT (p : Par) (ih : Ev) (sc : Scope) (st : St) (x : Expr) : Option (Out × St) := match kindT x with
  | .nt x => (match asB (ih sc (.t x) st) with | some (b, st) => some (.b (!b), st) | Option.none => Option.none)
  | .bool op vs => outB (boolT ih sc op vs st)
  | .cmp l ops cs => (match lastMarks ops cs with
    | false => (match asV (ih sc (.e l) st) with
      | some (a, st) => outB (chain p ih sc a ops cs st)
      | Option.none => Option.none)
    | true => Option.none)
  | .no => Option.none
  | .val => (match asV (ih sc (.e x) st) with
    | some (v, st) => (match tv st.h v with | some b => some (.b b, st) | Option.none => Option.none)
    | Option.none => Option.none)
/-! ## the kinds of statements that are served -/
inductive SK where
  | expr (c : Expr) | ret0 | ret (x : Expr)
  | asgT (ts vs : List Expr) (c : Expr)
  | unp (ts : List Expr) (c : Expr)
  | asgC (y : Str) (yp : Pos) (elt target it : Expr) (ts : List Expr) (csc : Scope) (q : Pos)
  | asg (t x : Expr)
  | ifs (t : Expr) (b o : List Stmt)
  | whl (t : Expr) (b : List Stmt)
  | fr (x : Str) (px : Pos) (it : Expr) (b : List Stmt)
  | try (b : List Stmt)
  | no
noncomputable def isCal : Expr → Bool
  | .Call _ _ _ _ => true
  | _ => false
set_option backward.match.sparseCases false in
noncomputable def isLc : Expr → Option (Expr × List Comprehension × Scope × Pos)
  | .ListComp elt gs csc q => some (elt, gs, csc, q)
  | _ => Option.none
noncomputable def kAsgN (t x : Expr) : SK := match isLc x with
  | some (elt, [g], csc, q) => (match isNam t, g.is_async with
    | some (y, yp), .ofNat 0 => .asgC y yp elt g.target g.iter g.ifs csc q
    | _, _ => .no)
  | some _ => .no
  | Option.none => .asg t x
noncomputable def kAsg (l : List Expr) (x : Expr) : SK := match l with
  | [t] => (match isTup t with
    | some ts => (match isTup x with
      | some vs => .asgT ts vs x
      | Option.none => (match isCal x with | true => .unp ts x | false => .no))
    | Option.none => kAsgN t x)
  | _ => .no
set_option backward.match.sparseCases false in
noncomputable def kindS : Stmt → SK
  | .Expr c _ => (match isCal c with | true => .expr c | false => .no)
  | .Return v _ => (match v with | Option.none => .ret0 | some x => .ret x)
  | .Assign ts x _ => kAsg ts x
  | .If t b o _ => .ifs t b o
  | .While t b o _ => (match o with | [] => .whl t b | _ => .no)
  | .For t it b o _ => (match isNam t, o with | some (x, px), [] => .fr x px it b | _, _ => .no)
  | .Try b hs o f _ => (match hs, o, f with | _ :: _, [], [] => .try b | _, _, _ => .no)
  | _ => .no
noncomputable def evS (p : Par) (ih : Ev) (sc : Scope) (st : St) (x : Stmt) : Option (Fl × St) := match kindS x with
  | .expr c => (match asV (ih sc (.e c) st) with | some (_, st) => some (.nx, st) | Option.none => Option.none)
  | .ret0 => some (.ret .none, st)
  | .ret x => (match asV (ih sc (.e x) st) with | some (v, st) => some (.ret v, st) | Option.none => Option.none)
  | .asgT ts vs c => (match asV (ih sc (.e c) st) with
    | some (.tup ds, st) => (match swp sc ts vs with
      | some Option.none => (match assignNames sc ts ds st.l with | some l => some (.nx, { st with l := l }) | Option.none => Option.none)
      | some (some ns) => (match storeNames sc ns.reverse ds.reverse st.l with | some l => some (.nx, { st with l := l }) | Option.none => Option.none)
      | Option.none => Option.none)
    | _ => Option.none)
  | .unp ts c => (match asV (ih sc (.e c) st) with
    | some (.tup ds, st) => (match assignNames sc ts ds st.l with | some l => some (.nx, { st with l := l }) | Option.none => Option.none)
    | _ => Option.none)
  | .asgC y yp elt target it ts csc q => (match slook y sc.names, csc.names.any (fun n => seq n.1 y), Nat.beq yp.line q.line with
    | some .local, false, true => (match compV ih sc elt target it ts csc st with
      | some (v, st) => some (.nx, { st with l := sput y v st.l })
      | Option.none => Option.none)
    | _, _, _ => Option.none)
  | .asg t x => (match isComp x with
    | true => Option.none
    | false => match asV (ih sc (.e x) st) with
    | some (v, st) => (match assignV p ih sc t v st with | some st => some (.nx, st) | Option.none => Option.none)
    | Option.none => Option.none)
  | .ifs t b o => (match asB (ih sc (.t t) st) with
    | some (true, st) => asF (ih sc (.s b) st)
    | some (false, st) => asF (ih sc (.s o) st)
    | Option.none => Option.none)
  | .whl t b => asF (ih sc (.w t b) st)
  | .fr x px it b => (match asV (ih sc (.e it) st) with
    | some (iv, st) => (match items st.h iv with
      | some (vs, h) => asF (ih sc (.f x px vs b) ⟨st.l, h⟩)
      | Option.none => Option.none)
    | Option.none => Option.none)
  | .try b => (match asF (ih sc (.s b) st) with
    | some r => some r
    | Option.none => Option.none)
  | .no => Option.none
noncomputable def outF (o : Option (Fl × St)) : Option (Out × St) := match o with
  | some (v, st) => some (.f v, st)
  | Option.none => Option.none
/-- the tests of a comprehension: none, or one -/
noncomputable def testsV (ih : Ev) (sc : Scope) : List Expr → St → Option (Bool × St)
  | [], st => some (true, st)
  | [c], st => asB (ih sc (.t c) st)
  | _, _ => Option.none
noncomputable def stepA (p : Par) (ih : Ev) : Ev := fun sc r st => match r with
  | .e x => evE p ih sc st x
  | .t x => evT p ih sc st x
  | .s [] => some (.f .nx, st)
  | .s (x :: r) => (match evS p ih sc st x with
    | some (.nx, st) => ih sc (.s r) st
    | some (.ret v, st) => some (.f (.ret v), st)
    | Option.none => Option.none)
  | .w t b => (match asB (ih sc (.t t) st) with
    | some (true, st) => (match asF (ih sc (.s b) st) with
      | some (.nx, st) => ih sc (.w t b) st
      | some (.ret v, st) => some (.f (.ret v), st)
      | Option.none => Option.none)
    | some (false, st) => some (.f .nx, st)
    | Option.none => Option.none)
  | .f _ _ [] _ => some (.f .nx, st)
  | .f x px (v :: vs) b => (match mayStore sc x with
    | true => (match asF (ih sc (.s b) { st with l := sput x v st.l }) with
      | some (.nx, st) => ih sc (.f x px vs b) st
      | some (.ret v, st) => some (.f (.ret v), st)
      | Option.none => Option.none)
    | false => Option.none)
  | .g _ _ _ [] acc => some (.v (.lst acc), st)
  | .g elt t ts (v :: vs) acc => (match storeC sc t v st.l with
    | some l => (match testsV ih sc ts ⟨l, st.h⟩ with
      | some (true, st) => (match asV (ih sc (.e elt) st) with
        | some (x, st) => ih sc (.g elt t ts vs (acc ++ [x])) st
        | Option.none => Option.none)
      | some (false, st) => ih sc (.g elt t ts vs acc) st
      | Option.none => Option.none)
    | Option.none => Option.none)
  | .c _ _ _ => Option.none
set_option backward.match.sparseCases false in
noncomputable def okKw : V → Option V → Bool
  | .bi _, _ => true
  | _, Option.none => true
  | _, _ => false
set_option backward.match.sparseCases false in
noncomputable def step (p : Par) (ih : Nat → Ev) : Nat → Ev := fun d sc r st => match r with
  | .c f args kw => (match d with
    | 0 => Option.none
    | d + 1 => (match okKw f kw with
      | true => outV (callV p d (ih d) f args kw st)
      | false => Option.none))
  | r => stepA p (ih d) sc r st
/-- fuel, then the calls' depth -/
noncomputable def ev (p : Par) : Nat → Nat → Ev
  | 0 => fun _ _ _ _ => Option.none
  | n + 1 => step p (ev p n)
end Mine

end
section -- KE1
namespace Mine
open PySem
inductive KSpec : Expr → EK → Prop
  | const (k : Const) (a b) : KSpec (.Constant k a b) (.const k)
  | name (x : Str) (a) : KSpec (.Name x a) (.name x)
  | tup (es : List Expr) (a b) : KSpec (.Tuple es a b) (.tup es)
  | nil (a) : KSpec (.List [] a) .nil
  | lst (e : Expr) (es : List Expr) (a) : KSpec (.List (e :: es) a) (.lst e es)
  | dict (a) : KSpec (.Dict [] [] a) .dict
  | bin (l : Expr) (op : Operator) (r : Expr) (a) : KSpec (.BinOp l op r a) (.bin l op r)
  | nt (x : Expr) (a) : KSpec (.UnaryOp .Not x a) (.nt x)
  | neg (x : Expr) (a) : KSpec (.UnaryOp .USub x a) (.neg x)
  | bool (op : BoolOp) (vs : List Expr) (a) : KSpec (.BoolOp op vs a) (.bool op vs)
  | ifx (t b o : Expr) (a) : KSpec (.IfExp t b o a) (.ifx t b o)
  | cmp (l : Expr) (ops : List CmpOp) (cs : List Expr) (a) : KSpec (.Compare l ops cs a) (.cmp l ops cs)
  | meth (o : Expr) (a : Str) (ap : Pos) (args : List Expr) (ps : Pos) : KSpec (.Call (.Attribute o a ap) args [] ps) (.meth o a ap args ps)
  | call (f : Expr) (args : List Expr) (a) (h : ∀ o x q, f ≠ .Attribute o x q) : KSpec (.Call f args [] a) (.call f args)
  | key (fx : Str) (fp : Pos) (args : List Expr) (kn : Str) (kx : Expr) (kp ps : Pos) : KSpec (.Call (.Name fx fp) args [⟨some kn, kx, kp⟩] ps) (.key fx fp args kn kx)
  | att (o : Expr) (x : Str) (a) : KSpec (.Attribute o x a) (.att o x)
  | slc (x : Str) (xp : Pos) (a b : Option Expr) (c d) : KSpec (.Subscript (.Name x xp) (.Slice a b Option.none c) d) (.slc x xp a b)
  | sub (o i : Expr) (a) (h : ∀ x y z q, i ≠ .Slice x y z q) : KSpec (.Subscript o i a) (.sub o i)
  | comp (elt target it : Expr) (ts : List Expr) (csc : Scope) (a) : KSpec (.ListComp elt [⟨target, it, ts, 0⟩] csc a) (.comp elt target it ts csc)
  | lam (a : Arguments) (b : Expr) (lsc : Scope) (q) : KSpec (.Lambda a b lsc q) (.lam a b lsc)
  | no (x : Expr) : KSpec x .no
set_option tactic.hygienic true in
theorem kSpec : ∀ x : Expr, KSpec x (kindE x) := by
  intro x
  (first | exact Mine.ns x | exact Mine.ft x | exact Mine.sn x | exact Mine.tf x | cases x)
  case Constant => exact .const ..
  case Name => exact .name ..
  case Tuple => exact .tup ..
  case List es a =>
    (first | exact Mine.ns es | exact Mine.ft es | exact Mine.sn es | exact Mine.tf es | cases es)
    · exact .nil _
    · exact .lst ..
  case Dict ks vs a =>
    (first | exact Mine.ns ks | exact Mine.ft ks | exact Mine.sn ks | exact Mine.tf ks | cases ks)
    · (first | exact Mine.ns vs | exact Mine.ft vs | exact Mine.sn vs | exact Mine.tf vs | cases vs)
      · exact .dict _
      · exact .no _
    · exact .no _
  case BinOp => exact .bin ..
  case UnaryOp op x a => (first | exact Mine.ns op | exact Mine.ft op | exact Mine.sn op | exact Mine.tf op | cases op) <;> first | exact .nt .. | exact .neg .. | exact .no _
  case BoolOp => exact .bool ..
  case IfExp => exact .ifx ..
  case Compare => exact .cmp ..
  case Call f args ks ps =>
    cases ks with
    | nil =>
      show KSpec _ (match isAtt f with | some (o, a, ap) => EK.meth o a ap args ps | Option.none => .call f args)
      (first | exact Mine.ns f | exact Mine.ft f | exact Mine.sn f | exact Mine.tf f | cases f)
      case Attribute => exact .meth ..
      all_goals exact .call _ _ _ (fun _ _ _ h => by (first | exact Mine.ns h | exact Mine.ft h | exact Mine.sn h | exact Mine.tf h | cases h))
    | cons k r =>
      cases r with
      | cons _ _ => exact .no _
      | nil =>
        obtain ⟨ka, kx, kp⟩ := k
        cases ka with
        | none => exact .no _
        | some kn =>
          (first | exact Mine.ns f | exact Mine.ft f | exact Mine.sn f | exact Mine.tf f | cases f)
          case Name => exact .key ..
          all_goals exact .no _
  case Attribute => exact .att ..
  case Subscript o i a =>
    (first | exact Mine.ns i | exact Mine.ft i | exact Mine.sn i | exact Mine.tf i | cases i)
    case Slice x y z q =>
      cases z with
      | some _ => exact .no _
      | none =>
        (first | exact Mine.ns o | exact Mine.ft o | exact Mine.sn o | exact Mine.tf o | cases o)
        case Name => exact .slc ..
        all_goals exact .no _
    all_goals exact .sub _ _ _ (fun _ _ _ _ h => by (first | exact Mine.ns h | exact Mine.ft h | exact Mine.sn h | exact Mine.tf h | cases h))
  case ListComp elt gs csc a =>
    cases gs with
    | nil => exact .no _
    | cons g r =>
      cases r with
      | cons _ _ => exact .no _
      | nil =>
        obtain ⟨t, it, ts, n⟩ := g
        cases n with
        | negSucc _ => exact .no _
        | ofNat n =>
          cases n with
          | zero => exact .comp ..
          | succ _ => exact .no _
  case Lambda => exact .lam ..
  all_goals exact .no _
inductive SSpec : Stmt → SK → Prop
  | expr (f xs ks q a) : SSpec (.Expr (.Call f xs ks q) a) (.expr (.Call f xs ks q))
  | ret0 (a) : SSpec (.Return Option.none a) .ret0
  | ret (x a) : SSpec (.Return (some x) a) (.ret x)
  | asgT (ts c1 c2 vs k q a) : SSpec (.Assign [.Tuple ts c1 c2] (.Tuple vs k q) a) (.asgT ts vs (.Tuple vs k q))
  | unp (ts c1 c2 f as ks ps a) : SSpec (.Assign [.Tuple ts c1 c2] (.Call f as ks ps) a) (.unp ts (.Call f as ks ps))
  | asgC (y yp elt target it ts csc q a) : SSpec (.Assign [.Name y yp] (.ListComp elt [⟨target, it, ts, 0⟩] csc q) a) (.asgC y yp elt target it ts csc q)
  | asg (t x a) : SSpec (.Assign [t] x a) (.asg t x)
  | ifs (t b o a) : SSpec (.If t b o a) (.ifs t b o)
  | whl (t b a) : SSpec (.While t b [] a) (.whl t b)
  | fr (x px it b a) : SSpec (.For (.Name x px) it b [] a) (.fr x px it b)
  | try (b h hs a) : SSpec (.Try b (h :: hs) [] [] a) (.try b)
  | no (x) : SSpec x .no
set_option tactic.hygienic true in
theorem sSpec : ∀ x : Stmt, SSpec x (kindS x) := by
  intro x
  (first | exact Mine.ns x | exact Mine.ft x | exact Mine.sn x | exact Mine.tf x | cases x)
  case Expr c a =>
    (first | exact Mine.ns c | exact Mine.ft c | exact Mine.sn c | exact Mine.tf c | cases c)
    case Call => exact .expr ..
    all_goals exact .no _
  case Return v a =>
    (first | exact Mine.ns v | exact Mine.ft v | exact Mine.sn v | exact Mine.tf v | cases v)
    · exact .ret0 _
    · exact .ret ..
  case Assign ts x a =>
    cases ts with
    | nil => exact .no _
    | cons t r =>
      cases r with
      | cons _ _ => exact .no _
      | nil =>
        have hN : SSpec (.Assign [t] x a) (kAsgN t x) := by
          (first | exact Mine.ns x | exact Mine.ft x | exact Mine.sn x | exact Mine.tf x | cases x)
          case ListComp elt gs csc q =>
            cases gs with
            | nil => exact .no _
            | cons g r =>
              cases r with
              | cons _ _ => exact .no _
              | nil =>
                obtain ⟨tg, it, ts, n⟩ := g
                (first | exact Mine.ns t | exact Mine.ft t | exact Mine.sn t | exact Mine.tf t | cases t)
                case Name =>
                  cases n with
                  | negSucc _ => exact .no _
                  | ofNat n =>
                    cases n with
                    | zero => exact .asgC ..
                    | succ _ => exact .no _
                all_goals exact .no _
          all_goals exact .asg ..
        (first | exact Mine.ns t | exact Mine.ft t | exact Mine.sn t | exact Mine.tf t | cases t)
        case Tuple ts c1 c2 =>
          (first | exact Mine.ns x | exact Mine.ft x | exact Mine.sn x | exact Mine.tf x | cases x)
          case Tuple => exact .asgT ..
          case Call => exact .unp ..
          all_goals exact .no _
        all_goals exact hN
  case If => exact .ifs ..
  case While t b o a =>
    (first | exact Mine.ns o | exact Mine.ft o | exact Mine.sn o | exact Mine.tf o | cases o)
    · exact .whl ..
    · exact .no _
  case For t it b o a =>
    (first | exact Mine.ns t | exact Mine.ft t | exact Mine.sn t | exact Mine.tf t | cases t)
    case Name =>
      (first | exact Mine.ns o | exact Mine.ft o | exact Mine.sn o | exact Mine.tf o | cases o)
      · exact .fr ..
      · exact .no _
    all_goals exact .no _
  case Try b hs o f a =>
    (first | exact Mine.ns hs | exact Mine.ft hs | exact Mine.sn hs | exact Mine.tf hs | cases hs)
    · exact .no _
    · (first | exact Mine.ns o | exact Mine.ft o | exact Mine.sn o | exact Mine.tf o | cases o)
      · (first | exact Mine.ns f | exact Mine.ft f | exact Mine.sn f | exact Mine.tf f | cases f)
        · exact .try ..
        · exact .no _
      · exact .no _
  all_goals exact .no _
end Mine

end
section -- Rep
namespace Mine
open PySem PySem.W PySem.Calls PyProof.Rows

theorem bind2 {α β : Type} {x : Option α} {f : α → Option β} {b : β} (h : x.bind f = some b) : ∃ a, x = some a ∧ f a = some b := by
  cases x with
  | none => exact ns h
  | some a => exact ⟨a, rfl, h⟩
theorem bif_on {α : Type} {b : Bool} {x : Option α} {y : α} (h : (bif b then x else none) = some y) : b = true ∧ x = some y := by cases b with | true => exact ⟨rfl, h⟩ | false => exact ns h
theorem bif_some {α : Type} {b : Bool} {x y : α} (h : (bif b then some x else none) = some y) : b = true ∧ x = y := by cases b with | true => exact ⟨rfl, Option.some.inj h⟩ | false => exact ns h
theorem opq {P : Prop} (h : ∀ G : Prop, (P → G) → G) : P := h P id
theorem oV {a b : V} {s t : St} {C : V → St → Prop} (h : some (Out.v a, s) = some (Out.v b, t)) (k : C a s) : C b t := by (first | exact Mine.ns h | exact Mine.ft h | exact Mine.sn h | exact Mine.tf h | cases h); exact k
theorem oF {a b : Fl} {s t : St} {C : Fl → St → Prop} (h : some (a, s) = some (b, t)) (k : C a s) : C b t := by (first | exact Mine.ns h | exact Mine.ft h | exact Mine.sn h | exact Mine.tf h | cases h); exact k
theorem oPi {α β : Type} {a c : α} {b d : β} (h : some (a, b) = some (c, d)) : a = c ∧ b = d := by (first | exact Mine.ns h | exact Mine.ft h | exact Mine.sn h | exact Mine.tf h | cases h); exact ⟨rfl, rfl⟩
theorem and2 {a b : Bool} (h : (a && b) = true) : a = true ∧ b = true := Bool.and_eq_true _ _ ▸ h
theorem V_ind {P : V → Prop} {Q : List V → Prop} (none : P .none) (bool : ∀ b, P (.bool b)) (int : ∀ i, P (.int i)) (str : ∀ x, P (.str x)) (tup : ∀ l, Q l → P (.tup l)) (lst : ∀ l, Q l → P (.lst l))
    (obj : ∀ C ns l, Q l → P (.obj C ns l)) (nm : ∀ k, P (.nm k)) (off : ∀ k d, P (.off k d)) (loc : ∀ n, P (.loc n)) (val : ∀ v, P (.val v)) (bi : ∀ k, P (.bi k)) (rng : ∀ i j, P (.rng i j))
    (clo : ∀ ps b sc, P (.clo ps b sc)) (any : P .any) (nil : Q []) (cons : ∀ d r, P d → Q r → Q (d :: r)) : (∀ d, P d) ∧ (∀ l, Q l) := by
  refine ⟨fun d => V.rec (motive_1 := P) (motive_2 := Q) ?_ ?_ ?_ ?_ ?_ ?_ ?_ ?_ ?_ ?_ ?_ ?_ ?_ ?_ ?_ ?_ ?_ d, fun l => V.rec_1 (motive_1 := P) (motive_2 := Q) ?_ ?_ ?_ ?_ ?_ ?_ ?_ ?_ ?_ ?_ ?_ ?_ ?_ ?_ ?_ ?_ ?_ l⟩
  all_goals first | exact none | exact bool | exact int | exact str | exact tup | exact lst | exact obj | exact nm | exact off | exact loc | exact val | exact bi | exact rng | exact clo | exact any | exact nil | exact cons
theorem and3 {a b c : Bool} (h : (a && b && c) = true) : (a = true ∧ b = true) ∧ c = true := ⟨and2 (and2 h).1, (and2 h).2⟩
noncomputable abbrev Led := List (Addr × Obj)
noncomputable abbrev tupO (vs : Array Value) (n : Nat) : Obj := { cls := .type "tuple", data := .seq vs n }

theorem leq_iff : ∀ a b : List Nat, leq a b = true ↔ a = b
  | [], [] => by simp [leq]
  | [], _ :: _ => by simp [leq]
  | _ :: _, [] => by simp [leq]
  | a :: r, b :: q => by
    unfold leq
    have ih := leq_iff r q
    cases h : Nat.beq a b with
    | true => simp only []; rw [ih, Nat.eq_of_beq_eq_true h]; simp
    | false =>
      have := Nat.ne_of_beq_eq_false h
      simp [this]
theorem seq_iff (a b : Str) : seq a b = true ↔ a = b := by
  unfold seq
  rw [leq_iff]
  constructor
  · intro h; (first | exact Mine.ns a | exact Mine.ft a | exact Mine.sn a | exact Mine.tf a | cases a); (first | exact Mine.ns b | exact Mine.ft b | exact Mine.sn b | exact Mine.tf b | cases b); simp only [Str.mk.injEq]; exact Array.ext' h
  · rintro rfl; rfl
theorem seq_false (a b : Str) : seq a b = false ↔ a ≠ b := by
  rw [Bool.eq_false_iff, ne_eq, ne_eq, seq_iff]
theorem slook_eq {α : Type} (x : Str) : ∀ l : List (Str × α), slook x l = l.lookup x
  | [] => rfl
  | (k, v) :: r => by
    unfold slook
    rw [List.lookup_cons]
    cases h : seq k x with
    | true => rw [(seq_iff _ _).mp h]; simp
    | false =>
      have hne := (seq_false _ _).mp h
      have : (x == k) = false := by
        rw [beq_eq_false_iff_ne]; exact Ne.symm hne
      rw [this]; exact slook_eq x r
theorem slook_sput {α : Type} (x y : Str) (v : α) : ∀ l : List (Str × α), slook y (sput x v l) = if y = x then some v else slook y l
  | [] => by
    unfold sput slook slook
    cases h : seq x y with
    | true => have := (seq_iff _ _).mp h; simp [this]
    | false => have := (seq_false _ _).mp h; simp [Ne.symm this]
  | (k, w) :: r => by
    unfold sput
    cases h : seq k x with
    | true =>
      have hk := (seq_iff _ _).mp h
      subst hk
      simp only []
      unfold slook
      cases h2 : seq k y with
      | true => have := (seq_iff _ _).mp h2; simp [this]
      | false => have := (seq_false _ _).mp h2; simp [Ne.symm this]
    | false =>
      have hk := (seq_false _ _).mp h
      simp only []
      unfold slook
      cases h2 : seq k y with
      | true => have := (seq_iff _ _).mp h2; subst this; simp [hk]
      | false => simp only []; exact slook_sput x y v r

/-- the built-ins that are served, by number -/
noncomputable def biT : List Value := [.builtin "len", .type "range", .builtin "sorted", .type "list", .type "tuple", .type "str", .builtin "abs", .none, .none, .none, .builtin "list.append", .builtin "list.index", .builtin "str.split", .builtin "str.index", .builtin "list.pop"]
noncomputable def biV (k : Nat) : Value := biT.getD k .none
theorem biV_all {P : Value → Prop} (h : ∀ v ∈ biT, P v) (n : P .none) (k : Nat) : P (biV k) := by
  unfold biV
  rw [List.getD_eq_getElem?_getD]
  cases e : biT[k]? with
  | none => exact n
  | some v => exact h v (List.mem_of_getElem? e)
noncomputable abbrev rangeO (a b : Int) (t u v : Tok) : Obj := { cls := .type "range", data := .fields #[.int a t, .int b u, .int 1 v] }

/-! ## what a value stands for -/
structure Rc where
  K : Frag
  τ : Nat → V
  Θ : Nat → List V → Addr → List (Addr × Obj) → List Addr → List (Addr × Obj) → Prop
  TB : List (Addr × Obj) → List (Addr × Obj) → Prop
mutual
inductive VR (R : Rc) (ρ : List Addr) (pu : Led) : V → Value → Prop
  | none : VR R ρ pu .none .none
  | bool (b : Bool) : VR R ρ pu (.bool b) (.bool b)
  | int (i : Int) (t : Tok) : VR R ρ pu (.int i) (.int i t)
  | str (x : Str) (t : Tok) : VR R ρ pu (.str x) (.str x t)
  | tup {a : Addr} {vs : List Value} {n : Nat} {l : List V} : (a, tupO vs.toArray n) ∈ pu → VRs R ρ pu l vs → VR R ρ pu (.tup l) (.ref a)
  | tupK {a : Addr} {vs : List Value} {n : Nat} {l : List V} : R.K.lookup a = some (tupO vs.toArray n) → VRs R ρ pu l vs → VR R ρ pu (.tup l) (.ref a)
  | lst {a : Addr} {vs : List Value} {n : Nat} {l : List V} : (a, listOf vs.toArray n) ∈ pu → VRs R ρ pu l vs → VR R ρ pu (.lst l) (.ref a)
  | obj {x dx C : Addr} {es : List DictEntry} {n : Nat} {ns : List Str} {l : List V} : (x, instObj C dx) ∈ pu → (dx, dictOf es n) ∈ pu → VRd R ρ pu ns l es → VR R ρ pu (.obj C ns l) (.ref x)
  | nm {k : Nat} {v : Value} : VR R ρ pu (R.τ k) v → VR R ρ pu (.nm k) v
  | off {k : Nat} {i d : Int} (t : Tok) : R.τ k = .int i → VR R ρ pu (.off k d) (.int (i + d) t)
  | loc {n : Nat} {a : Addr} : ρ[n]? = some a → VR R ρ pu (.loc n) (.ref a)
  | val {v : Value} : handedIn v = true → VR R ρ pu (.val v) v
  | bi (k : Nat) : VR R ρ pu (.bi k) (biV k)
  | rng {a : Addr} {i j : Int} {t u v : Tok} : (a, rangeO i j t u v) ∈ pu → VR R ρ pu (.rng i j) (.ref a)
  | clo {f c' : Addr} {oc : Obj} {fvs : Array Value} {tq : Tok} {qual : Str} {args : Arguments} {body : Expr} {sc : Scope} {pm ctv : Value} {ps : List Str} :
      (f, ({ cls := .type "function", data := .func { name := "<lambda>", qualname := qual, params := args, body := .expr body, scope := sc, globals := mainGlobals, closure := [], defaults := .none, kwdefaults := .none, doc := .none, pyModule := pm, annotations := Option.none, code := .ref c', closureTuple := ctv, builtins := builtinsNs } } : Obj)) ∈ pu →
      (c', oc) ∈ pu → oc.data = .fields fvs → fvs[1]? = some (.str qual tq) → ps = argNames args → simpleArgs args = true → VR R ρ pu (.clo ps body sc) (.ref f)
  | any {v : Value} : handedIn v = true → VR R ρ pu .any v
inductive VRs (R : Rc) (ρ : List Addr) (pu : Led) : List V → List Value → Prop
  | nil : VRs R ρ pu [] []
  | cons {d : V} {ds : List V} {v : Value} {vs : List Value} : VR R ρ pu d v → VRs R ρ pu ds vs → VRs R ρ pu (d :: ds) (v :: vs)
inductive VRd (R : Rc) (ρ : List Addr) (pu : Led) : List Str → List V → List DictEntry → Prop
  | nil : VRd R ρ pu [] [] []
  | cons {n : Str} {ns : List Str} {d : V} {ds : List V} {e : DictEntry} {es : List DictEntry} {t : Tok} : e.key = .str n t → VR R ρ pu d e.val → VRd R ρ pu ns ds es → VRd R ρ pu (n :: ns) (d :: ds) (e :: es)
end
noncomputable def Pre (ρ ρ' : List Addr) : Prop := ∀ (n : Nat) (a : Addr), ρ[n]? = some a → ρ'[n]? = some a
noncomputable def Sub (pu pu' : Led) : Prop := ∀ p ∈ pu, p ∈ pu'
theorem Pre.refl (ρ : List Addr) : Pre ρ ρ := fun _ _ h => h
theorem Pre.trans {a b c : List Addr} (h : Pre a b) (k : Pre b c) : Pre a c := fun n x e => k n x (h n x e)
theorem Sub.refl (pu : Led) : Sub pu pu := fun _ h => h
theorem Sub.trans {a b c : Led} (h : Sub a b) (k : Sub b c) : Sub a c := fun p e => k p (h p e)
theorem Pre.snoc (ρ : List Addr) (a : Addr) : Pre ρ (ρ ++ [a]) := fun n x h => by
  rw [List.getElem?_append_left]
  · exact h
  · exact (List.getElem?_eq_some_iff.mp h).1
section
variable {R R' : Rc} {ρ ρ' : List Addr} {pu pu' : Led}
/-- one induction for the three -/
theorem VR_ind {P : V → Value → Prop} {Q : List V → List Value → Prop} {D : List Str → List V → List DictEntry → Prop}
    (none : P .none .none) (bool : ∀ b, P (.bool b) (.bool b)) (int : ∀ i t, P (.int i) (.int i t)) (str : ∀ x t, P (.str x) (.str x t))
    (tup : ∀ {a vs n l}, (a, tupO (List.toArray vs) n) ∈ pu → Q l vs → P (.tup l) (.ref a))
    (tupK : ∀ {a vs n l}, R.K.lookup a = some (tupO (List.toArray vs) n) → Q l vs → P (.tup l) (.ref a))
    (lst : ∀ {a vs n l}, (a, listOf (List.toArray vs) n) ∈ pu → Q l vs → P (.lst l) (.ref a))
    (obj : ∀ {x dx C es n ns l}, (x, instObj C dx) ∈ pu → (dx, dictOf es n) ∈ pu → D ns l es → P (.obj C ns l) (.ref x))
    (nm : ∀ {k v}, VR R ρ pu (R.τ k) v → P (R.τ k) v → P (.nm k) v)
    (off : ∀ {k i d} t, R.τ k = .int i → P (.off k d) (.int (i + d) t))
    (loc : ∀ {n : Nat} {a : Addr}, ρ[n]? = some a → P (.loc n) (.ref a))
    (val : ∀ {v}, handedIn v = true → P (.val v) v) (bi : ∀ k, P (.bi k) (biV k))
    (rng : ∀ {a i j t u v}, (a, rangeO i j t u v) ∈ pu → P (.rng i j) (.ref a))
    (clo : ∀ {f ps body sc}, VR R ρ pu (.clo ps body sc) (.ref f) → P (.clo ps body sc) (.ref f))
    (any : ∀ {v}, handedIn v = true → P .any v) (nil : Q [] []) (cons : ∀ {d ds v vs}, P d v → Q ds vs → Q (d :: ds) (v :: vs))
    (dnil : D [] [] []) (dcons : ∀ {n ns d ds} {e : DictEntry} {es t}, e.key = .str n t → P d e.val → D ns ds es → D (n :: ns) (d :: ds) (e :: es)) :
    (∀ d v, VR R ρ pu d v → P d v) ∧ (∀ ds vs, VRs R ρ pu ds vs → Q ds vs) ∧ (∀ ns ds es, VRd R ρ pu ns ds es → D ns ds es) := by
  refine ⟨fun _ _ h => VR.rec (motive_1 := fun d v _ => P d v) (motive_2 := fun ds vs _ => Q ds vs) (motive_3 := fun ns ds es _ => D ns ds es) ?_ ?_ ?_ ?_ ?_ ?_ ?_ ?_ ?_ ?_ ?_ ?_ ?_ ?_ ?_ ?_ ?_ ?_ ?_ ?_ h,
    fun _ _ h => VRs.rec (motive_1 := fun d v _ => P d v) (motive_2 := fun ds vs _ => Q ds vs) (motive_3 := fun ns ds es _ => D ns ds es) ?_ ?_ ?_ ?_ ?_ ?_ ?_ ?_ ?_ ?_ ?_ ?_ ?_ ?_ ?_ ?_ ?_ ?_ ?_ ?_ h,
    fun _ _ _ h => VRd.rec (motive_1 := fun d v _ => P d v) (motive_2 := fun ds vs _ => Q ds vs) (motive_3 := fun ns ds es _ => D ns ds es) ?_ ?_ ?_ ?_ ?_ ?_ ?_ ?_ ?_ ?_ ?_ ?_ ?_ ?_ ?_ ?_ ?_ ?_ ?_ ?_ h⟩
  all_goals first
    | exact none | exact bool | exact int | exact str | exact fun h _ r => tup h r | exact fun h _ r => tupK h r | exact fun h _ r => lst h r | exact fun h k _ r => obj h k r
    | exact fun h r => nm h r | exact off | exact loc | exact val | exact bi | exact rng | exact fun h k a b c d => clo (.clo h k a b c d) | exact any
    | exact nil | exact fun _ _ r q => cons r q | exact dnil | exact fun k _ _ r q => dcons k r q
theorem VR_mono (h1 : Pre ρ ρ') (h2 : Sub pu pu') : (∀ d v, VR R ρ pu d v → VR R ρ' pu' d v) ∧ (∀ ds vs, VRs R ρ pu ds vs → VRs R ρ' pu' ds vs) ∧ (∀ ns ds es, VRd R ρ pu ns ds es → VRd R ρ' pu' ns ds es) :=
  VR_ind .none .bool .int .str (fun h r => .tup (h2 _ h) r) (fun h r => .tupK h r) (fun h r => .lst (h2 _ h) r) (fun h k r => .obj (h2 _ h) (h2 _ k) r)
    (fun _ r => .nm r) (fun t h => .off t h) (fun h => .loc (h1 _ _ h)) (fun h => .val h) .bi (fun h => .rng (h2 _ h))
    (fun h => by cases h with | clo h k a b c d => exact .clo (h2 _ h) (h2 _ k) a b c d) (fun h => .any h) .nil (fun r q => .cons r q) .nil (fun k r q => .cons k r q)
theorem VR.mono (h1 : Pre ρ ρ') (h2 : Sub pu pu') {d : V} {v : Value} (h : VR R ρ pu d v) : VR R ρ' pu' d v := (VR_mono h1 h2).1 _ _ h
theorem VRs.mono (h1 : Pre ρ ρ') (h2 : Sub pu pu') {ds : List V} {vs : List Value} (h : VRs R ρ pu ds vs) : VRs R ρ' pu' ds vs := (VR_mono h1 h2).2.1 _ _ h
theorem VRd.mono (h1 : Pre ρ ρ') (h2 : Sub pu pu') {ns : List Str} {ds : List V} {es : List DictEntry} (h : VRd R ρ pu ns ds es) : VRd R ρ' pu' ns ds es := (VR_mono h1 h2).2.2 _ _ _ h
theorem biV_handed (k : Nat) : handedIn (biV k) = true := biV_all (P := fun v => handedIn v = true) (List.all_eq_true.mp rfl) rfl k
theorem VR.handed {d : V} {v : Value} (h : VR R ρ pu d v) : handedIn v = true :=
  (VR_ind (R := R) (ρ := ρ) (pu := pu) (P := fun _ v => handedIn v = true) (Q := fun _ _ => True) (D := fun _ _ _ => True) rfl (fun _ => rfl) (fun _ _ => rfl) (fun _ _ => rfl) (fun _ _ => rfl) (fun _ _ => rfl) (fun _ _ => rfl)
    (fun _ _ _ => rfl) (fun _ h => h) (fun _ _ => rfl) (fun _ => rfl) (fun h => h) biV_handed (fun _ => rfl) (fun _ => rfl) (fun h => h) trivial (fun _ _ => trivial) trivial (fun _ _ _ => trivial)).1 _ _ h
/-- what a value's reading says, constructor by constructor -/
noncomputable def VRI (R : Rc) (ρ : List Addr) (pu : Led) (d : V) (v : Value) : Prop := match d with
  | .none => v = .none
  | .bool b => v = .bool b
  | .int i => ∃ t, v = .int i t
  | .str x => ∃ t, v = .str x t
  | .tup l => ∃ a vs n, v = .ref a ∧ ((a, tupO (List.toArray vs) n) ∈ pu ∨ R.K.lookup a = some (tupO (List.toArray vs) n)) ∧ VRs R ρ pu l vs
  | .lst l => ∃ a vs n, v = .ref a ∧ (a, listOf (List.toArray vs) n) ∈ pu ∧ VRs R ρ pu l vs
  | .obj C ns l => ∃ x dx es n, v = .ref x ∧ (x, instObj C dx) ∈ pu ∧ (dx, dictOf es n) ∈ pu ∧ VRd R ρ pu ns l es
  | .nm k => VR R ρ pu (R.τ k) v
  | .off k d => ∃ i t, R.τ k = .int i ∧ v = .int (i + d) t
  | .loc n => ∃ a, v = .ref a ∧ ρ[n]? = some a
  | .val w => v = w ∧ handedIn w = true
  | .bi k => v = biV k
  | .rng i j => ∃ a t u w, v = .ref a ∧ (a, rangeO i j t u w) ∈ pu
  | .clo ps body sc => ∃ f c' oc fvs tq qual args pm ctv, v = .ref f ∧ (f, ({ cls := .type "function", data := .func { name := "<lambda>", qualname := qual, params := args, body := .expr body, scope := sc, globals := mainGlobals, closure := [], defaults := .none, kwdefaults := .none, doc := .none, pyModule := pm, annotations := Option.none, code := .ref c', closureTuple := ctv, builtins := builtinsNs } } : Obj)) ∈ pu ∧
      (c', oc) ∈ pu ∧ oc.data = .fields fvs ∧ fvs[1]? = some (.str qual tq) ∧ ps = argNames args ∧ simpleArgs args = true
  | .any => handedIn v = true
theorem VR.inv {d : V} {v : Value} (h : VR R ρ pu d v) : VRI R ρ pu d v := by
  cases h with
  | none => exact rfl
  | bool b => exact rfl
  | int i t => exact ⟨_, rfl⟩
  | str x t => exact ⟨_, rfl⟩
  | tup h r => exact ⟨_, _, _, rfl, .inl h, r⟩
  | tupK h r => exact ⟨_, _, _, rfl, .inr h, r⟩
  | lst h r => exact ⟨_, _, _, rfl, h, r⟩
  | obj h k r => exact ⟨_, _, _, _, rfl, h, k, r⟩
  | nm h => exact h
  | off t h => exact ⟨_, t, h, rfl⟩
  | loc h => exact ⟨_, rfl, h⟩
  | val h => exact ⟨rfl, h⟩
  | bi k => exact rfl
  | rng h => exact ⟨_, _, _, _, rfl, h⟩
  | clo h k a b c d => exact ⟨_, _, _, _, _, _, _, _, _, rfl, h, k, a, b, c, d⟩
  | any h => exact h
theorem VR.none_inv {v : Value} (h : VR R ρ pu .none v) : v = .none := h.inv
theorem VR.bool_inv {b : Bool} {v : Value} (h : VR R ρ pu (.bool b) v) : v = .bool b := h.inv
theorem VR.int_inv {i : Int} {v : Value} (h : VR R ρ pu (.int i) v) : ∃ t, v = .int i t := h.inv
theorem VR.str_inv {x : Str} {v : Value} (h : VR R ρ pu (.str x) v) : ∃ t, v = .str x t := h.inv
theorem VR.loc_inv {n : Nat} {v : Value} (h : VR R ρ pu (.loc n) v) : ∃ a, v = .ref a ∧ ρ[n]? = some a := h.inv
theorem VR.lst_inv {l : List V} {v : Value} (h : VR R ρ pu (.lst l) v) : ∃ a vs n, v = .ref a ∧ (a, listOf (List.toArray vs) n) ∈ pu ∧ VRs R ρ pu l vs := h.inv
theorem VR.tupI {l : List V} {v : Value} (h : VR R ρ pu (.tup l) v) : ∃ a vs n, v = .ref a ∧ ((a, tupO (List.toArray vs) n) ∈ pu ∨ R.K.lookup a = some (tupO (List.toArray vs) n)) ∧ VRs R ρ pu l vs := h.inv
theorem VR.obj_inv {C : Addr} {ns : List Str} {l : List V} {v : Value} (h : VR R ρ pu (.obj C ns l) v) : ∃ x dx es n, v = .ref x ∧ (x, instObj C dx) ∈ pu ∧ (dx, dictOf es n) ∈ pu ∧ VRd R ρ pu ns l es := h.inv
theorem VR.off_inv {k : Nat} {d : Int} {v : Value} (h : VR R ρ pu (.off k d) v) : ∃ i t, R.τ k = .int i ∧ v = .int (i + d) t := h.inv
theorem VR.nm_inv {k : Nat} {v : Value} (h : VR R ρ pu (.nm k) v) : VR R ρ pu (R.τ k) v := h.inv
theorem VR.bi_inv {k : Nat} {v : Value} (h : VR R ρ pu (.bi k) v) : v = biV k := h.inv
theorem VR.rng_inv {i j : Int} {v : Value} (h : VR R ρ pu (.rng i j) v) : ∃ a t u w, v = .ref a ∧ (a, rangeO i j t u w) ∈ pu := h.inv
theorem VR.any_inv {v : Value} (h : VR R ρ pu .any v) : handedIn v = true := h.inv
theorem VR.val_inv {w v : Value} (h : VR R ρ pu (.val w) v) : v = w := h.inv.1
theorem VRs.nil_inv {vs : List Value} (h : VRs R ρ pu [] vs) : vs = [] := by (first | exact Mine.ns h | exact Mine.ft h | exact Mine.sn h | exact Mine.tf h | cases h); rfl
theorem VRs.cons_inv {d : V} {ds : List V} {vs : List Value} (h : VRs R ρ pu (d :: ds) vs) : ∃ v ws, vs = v :: ws ∧ VR R ρ pu d v ∧ VRs R ρ pu ds ws := by cases h with | cons a b => exact ⟨_, _, rfl, a, b⟩
theorem VRd.cons_inv {ns : List Str} {d : V} {ds : List V} {es : List DictEntry} (h : VRd R ρ pu ns (d :: ds) es) : ∃ n ns' e es' t, ns = n :: ns' ∧ es = e :: es' ∧ e.key = .str n t ∧ VR R ρ pu d e.val ∧ VRd R ρ pu ns' ds es' := by cases h with | cons k a b => exact ⟨_, _, _, _, _, rfl, rfl, k, a, b⟩
theorem VR.clo_inv {ps : List Str} {body : Expr} {sc : Scope} {v : Value} (h : VR R ρ pu (.clo ps body sc) v) : VRI R ρ pu (.clo ps body sc) v := h.inv
theorem VRd.cons2 {n : Str} {ns : List Str} {d : V} {ds : List V} {es : List DictEntry} (h : VRd R ρ pu (n :: ns) (d :: ds) es) : ∃ e es' t, es = e :: es' ∧ e.key = .str n t ∧ VR R ρ pu d e.val ∧ VRd R ρ pu ns ds es' := by cases h with | cons k a b => exact ⟨_, _, _, rfl, k, a, b⟩
theorem intOf_iff {a : V} {x : Int} (h : intOf a = some x) : a = .int x := by
  unfold intOf at h
  (first | (revert h; refine mb (fun _ h => ?_) (fun _ h => ?_)) | split at h)
  · exact congrArg _ (Option.some.inj h)
  · (first | exact Mine.ns h | exact Mine.ft h | exact Mine.sn h | exact Mine.tf h | cases h)
theorem strO_iff {a : V} {x : Str} (h : strO a = some x) : a = .str x := by
  unfold strO at h
  (first | (revert h; refine mb (fun _ h => ?_) (fun _ h => ?_)) | split at h)
  · exact congrArg _ (Option.some.inj h)
  · (first | exact Mine.ns h | exact Mine.ft h | exact Mine.sn h | exact Mine.tf h | cases h)
theorem isNoneV_iff {a : V} (h : isNoneV a = true) : a = .none := by
  unfold isNoneV at h
  (first | (revert h; refine mb (fun _ h => ?_) (fun _ h => ?_)) | split at h)
  · rfl
  · (first | exact Mine.ns h | exact Mine.ft h | exact Mine.sn h | exact Mine.tf h | cases h)
theorem nmOf_iff {a : V} {k : Nat} (h : nmOf a = some k) : a = .nm k := by
  unfold nmOf at h
  (first | (revert h; refine mb (fun _ h => ?_) (fun _ h => ?_)) | split at h)
  · exact congrArg _ (Option.some.inj h)
  · (first | exact Mine.ns h | exact Mine.ft h | exact Mine.sn h | exact Mine.tf h | cases h)
theorem isNamE_iff {e : Expr} {x : Str} (h : isNamE e = some x) : ∃ p, e = .Name x p := by
  (first | exact Mine.ns e | exact Mine.ft e | exact Mine.sn e | exact Mine.tf e | cases e) <;> first | exact Mine.ns h | skip
  obtain rfl := Option.some.inj h; exact ⟨_, rfl⟩
theorem tupOf_iff {a : V} {l : List V} (h : tupOf a = some l) : a = .tup l := by
  (first | exact Mine.ns a | exact Mine.ft a | exact Mine.sn a | exact Mine.tf a | cases a) <;> first | exact congrArg _ (Option.some.inj h) | exact Mine.ns h
set_option tactic.hygienic true in
theorem isTup_iff {e : Expr} {es : List Expr} (h : isTup e = some es) : ∃ a b, e = .Tuple es a b := by
  (first | exact Mine.ns e | exact Mine.ft e | exact Mine.sn e | exact Mine.tf e | cases e) <;> first | exact Mine.ns h | skip
  obtain rfl := Option.some.inj h; exact ⟨_, _, rfl⟩
theorem isAtt_iff {e o : Expr} {a : Str} {p : Pos} (h : isAtt e = some (o, a, p)) : e = .Attribute o a p := by
  (first | exact Mine.ns e | exact Mine.ft e | exact Mine.sn e | exact Mine.tf e | cases e) <;> first | exact Mine.ns h | skip
  cases Option.some.inj h
  rfl
theorem isLoc_iff {sc : Scope} {x : Str} (h : isLoc sc x = true) : sc.names.lookup x = some .local := by
  unfold isLoc at h
  rw [slook_eq] at h
  revert h
  split
  · rename_i e; exact fun _ => e
  · exact fun h => ft h
theorem nmsE_ok : ∀ {es : List Expr} {xs : List Str}, nmsE es = some xs → ∃ ns : List (Str × Pos), es = ns.map (fun q => Expr.Name q.1 q.2) ∧ xs = ns.map (·.1) := by
  intro es
  induction es with
  | nil => intro xs e; obtain rfl := Option.some.inj e; exact ⟨[], rfl, rfl⟩
  | cons t r ih =>
    intro xs e
    obtain ⟨x, h1, e⟩ := bind2 e
    obtain ⟨ys, h2, e⟩ := bind2 e
    obtain rfl := Option.some.inj e
    obtain ⟨p, rfl⟩ := isNamE_iff h1
    obtain ⟨ns, rfl, rfl⟩ := ih h2
    exact ⟨(x, p) :: ns, rfl, rfl⟩
theorem locOf_iff {a : V} {n : Nat} (h : locOf a = some n) : a = .loc n := by
  (first | exact Mine.ns a | exact Mine.ft a | exact Mine.sn a | exact Mine.tf a | cases a) <;> first | ((first | exact Mine.ns h | exact Mine.ft h | exact Mine.sn h | exact Mine.tf h | cases h); rfl) | (first | exact Mine.ns h | exact Mine.ft h | exact Mine.sn h | exact Mine.tf h | cases h)
theorem refO_iff {a : V} {d : Addr} (h : refO a = some d) : a = .val (.ref d) := by
  unfold refO at h
  (first | (revert h; refine mb (fun _ h => ?_) (fun _ h => ?_)) | split at h)
  · rw [Option.some.inj h]
  · (first | exact Mine.ns h | exact Mine.ft h | exact Mine.sn h | exact Mine.tf h | cases h)
theorem refVal_iff {a : V} (h : refVal a = true) : ∃ r, a = .val (.ref r) := by
  obtain ⟨r, hr⟩ := Option.isSome_iff_exists.mp h
  exact ⟨r, refO_iff hr⟩
theorem lstO_iff {a : V} {l : List V} (h : lstO a = some l) : a = .lst l := by
  (first | exact Mine.ns a | exact Mine.ft a | exact Mine.sn a | exact Mine.tf a | cases a) <;> first | exact congrArg _ (Option.some.inj h) | exact Mine.ns h
theorem rngOf_iff {a : V} {i j : Int} (h : rngOf a = some (i, j)) : a = .rng i j := by
  unfold rngOf at h
  (first | (revert h; refine mb (fun _ h => ?_) (fun _ h => ?_)) | split at h)
  · (first | exact Mine.ns h | exact Mine.ft h | exact Mine.sn h | exact Mine.tf h | cases h); rfl
  · (first | exact Mine.ns h | exact Mine.ft h | exact Mine.sn h | exact Mine.tf h | cases h)
theorem offOf_iff {a : V} {q : Nat × Int} (h : offOf a = some q) : a = .off q.1 q.2 := by
  (first | exact Mine.ns a | exact Mine.ft a | exact Mine.sn a | exact Mine.tf a | cases a) <;> first | exact Mine.ns h | skip
  rw [← Option.some.inj h]
theorem lstAt_iff {h : List MO} {n : Nat} {l : List V} (e : lstAt h n = some l) : h[n]? = some (.lst l) := by
  unfold lstAt at e
  (first | (revert e; refine mb (fun _ e => ?_) (fun _ e => ?_)) | split at e)
  · rename_i q; rw [q, Option.some.inj e]
  · (first | exact Mine.ns e | exact Mine.ft e | exact Mine.sn e | exact Mine.tf e | cases e)
theorem natOf_iff {i : V} {n : Nat} (h : (intOf i).bind natI = some n) : i = .int (.ofNat n) := by
  obtain ⟨z, h1, h2⟩ := bind2 h
  rw [intOf_iff h1]
  cases z with
  | ofNat k => rw [Option.some.inj h2]
  | negSucc k => exact ns h2
theorem okL_iff {l r : List V} (h : okL l = some r) : r = l ∧ l.length ≤ 10000 := by
  obtain ⟨a, b⟩ := bif_some h
  exact ⟨b.symm, Nat.le_of_ble_eq_true a⟩
theorem deref_lst {h : List MO} {a : V} {l : List V} (e : lstD h a = some l) : deref h a = .lst l := by unfold deref; rw [e]
theorem VR.ref_inv {d : V} {v : Value} (h : VR R ρ pu d v) (hd : isRefV d = true) : ∃ a, v = .ref a :=
  (VR_ind (R := R) (ρ := ρ) (pu := pu) (P := fun d v => isRefV d = true → ∃ a, v = .ref a) (Q := fun _ _ => True) (D := fun _ _ _ => True) (fun h => ft h) (fun _ h => ft h) (fun _ _ h => ft h) (fun _ _ h => ft h)
    (fun _ _ _ => ⟨_, rfl⟩) (fun _ _ _ => ⟨_, rfl⟩) (fun _ _ _ => ⟨_, rfl⟩) (fun _ _ _ _ => ⟨_, rfl⟩) (fun _ _ h => ft h) (fun _ _ h => ft h) (fun _ _ => ⟨_, rfl⟩) (fun _ h => ft h) (fun _ h => ft h) (fun _ _ => ⟨_, rfl⟩) (fun _ _ => ⟨_, rfl⟩) (fun _ h => ft h) trivial (fun _ _ => trivial) trivial (fun _ _ _ => trivial)).1 _ _ h hd
end
end Mine

end
section -- NB
namespace Mine
theorem zOV {γ : Type} {x : Option (V)} {f : V → Option γ} {r : γ} {G : Prop} (k : ∀ a, x = some a → f a = some r → G) : (match (generalizing := false) x with | some a => f a | none => none) = some r → G := match x, k with | some a, k => k a rfl | none, _ => ns
theorem zOLV {γ : Type} {x : Option (List V)} {f : List V → Option γ} {r : γ} {G : Prop} (k : ∀ a, x = some a → f a = some r → G) : (match (generalizing := false) x with | some a => f a | none => none) = some r → G := match x, k with | some a, k => k a rfl | none, _ => ns
theorem zONat {γ : Type} {x : Option (Nat)} {f : Nat → Option γ} {r : γ} {G : Prop} (k : ∀ a, x = some a → f a = some r → G) : (match (generalizing := false) x with | some a => f a | none => none) = some r → G := match x, k with | some a, k => k a rfl | none, _ => ns
theorem zOInt {γ : Type} {x : Option (Int)} {f : Int → Option γ} {r : γ} {G : Prop} (k : ∀ a, x = some a → f a = some r → G) : (match (generalizing := false) x with | some a => f a | none => none) = some r → G := match x, k with | some a, k => k a rfl | none, _ => ns
theorem zOLInt {γ : Type} {x : Option (List Int)} {f : List Int → Option γ} {r : γ} {G : Prop} (k : ∀ a, x = some a → f a = some r → G) : (match (generalizing := false) x with | some a => f a | none => none) = some r → G := match x, k with | some a, k => k a rfl | none, _ => ns
theorem zOLIV {γ : Type} {x : Option (List (Int × V))} {f : List (Int × V) → Option γ} {r : γ} {G : Prop} (k : ∀ a, x = some a → f a = some r → G) : (match (generalizing := false) x with | some a => f a | none => none) = some r → G := match x, k with | some a, k => k a rfl | none, _ => ns
theorem zOStr {γ : Type} {x : Option (PySem.Str)} {f : PySem.Str → Option γ} {r : γ} {G : Prop} (k : ∀ a, x = some a → f a = some r → G) : (match (generalizing := false) x with | some a => f a | none => none) = some r → G := match x, k with | some a, k => k a rfl | none, _ => ns
theorem zOSt {γ : Type} {x : Option (St)} {f : St → Option γ} {r : γ} {G : Prop} (k : ∀ a, x = some a → f a = some r → G) : (match (generalizing := false) x with | some a => f a | none => none) = some r → G := match x, k with | some a, k => k a rfl | none, _ => ns
theorem zOFR {γ : Type} {x : Option (FR)} {f : FR → Option γ} {r : γ} {G : Prop} (k : ∀ a, x = some a → f a = some r → G) : (match (generalizing := false) x with | some a => f a | none => none) = some r → G := match x, k with | some a, k => k a rfl | none, _ => ns
theorem zOLSV {γ : Type} {x : Option (List (PySem.Str × V))} {f : List (PySem.Str × V) → Option γ} {r : γ} {G : Prop} (k : ∀ a, x = some a → f a = some r → G) : (match (generalizing := false) x with | some a => f a | none => none) = some r → G := match x, k with | some a, k => k a rfl | none, _ => ns
theorem zOLStr {γ : Type} {x : Option (List PySem.Str)} {f : List PySem.Str → Option γ} {r : γ} {G : Prop} (k : ∀ a, x = some a → f a = some r → G) : (match (generalizing := false) x with | some a => f a | none => none) = some r → G := match x, k with | some a, k => k a rfl | none, _ => ns
theorem zOLE {γ : Type} {x : Option (List PySem.Expr)} {f : List PySem.Expr → Option γ} {r : γ} {G : Prop} (k : ∀ a, x = some a → f a = some r → G) : (match (generalizing := false) x with | some a => f a | none => none) = some r → G := match x, k with | some a, k => k a rfl | none, _ => ns
theorem zOBool {γ : Type} {x : Option (Bool)} {f : Bool → Option γ} {r : γ} {G : Prop} (k : ∀ a, x = some a → f a = some r → G) : (match (generalizing := false) x with | some a => f a | none => none) = some r → G := match x, k with | some a, k => k a rfl | none, _ => ns
theorem zPVSt {γ : Type} {x : Option (V × St)} {f : V → St → Option γ} {r : γ} {G : Prop} (k : ∀ a b, x = some (a, b) → f a b = some r → G) : (match (generalizing := false) x with | some (a, b) => f a b | none => none) = some r → G := match x, k with | some a, k => k a.1 a.2 rfl | none, _ => ns
theorem zPLVSt {γ : Type} {x : Option (List V × St)} {f : List V → St → Option γ} {r : γ} {G : Prop} (k : ∀ a b, x = some (a, b) → f a b = some r → G) : (match (generalizing := false) x with | some (a, b) => f a b | none => none) = some r → G := match x, k with | some a, k => k a.1 a.2 rfl | none, _ => ns
theorem zPBSt {γ : Type} {x : Option (Bool × St)} {f : Bool → St → Option γ} {r : γ} {G : Prop} (k : ∀ a b, x = some (a, b) → f a b = some r → G) : (match (generalizing := false) x with | some (a, b) => f a b | none => none) = some r → G := match x, k with | some a, k => k a.1 a.2 rfl | none, _ => ns
theorem zPFSt {γ : Type} {x : Option (Fl × St)} {f : Fl → St → Option γ} {r : γ} {G : Prop} (k : ∀ a b, x = some (a, b) → f a b = some r → G) : (match (generalizing := false) x with | some (a, b) => f a b | none => none) = some r → G := match x, k with | some a, k => k a.1 a.2 rfl | none, _ => ns
theorem zPOVSt {γ : Type} {x : Option (Option V × St)} {f : Option V → St → Option γ} {r : γ} {G : Prop} (k : ∀ a b, x = some (a, b) → f a b = some r → G) : (match (generalizing := false) x with | some (a, b) => f a b | none => none) = some r → G := match x, k with | some a, k => k a.1 a.2 rfl | none, _ => ns
theorem zPLVM {γ : Type} {x : Option (List V × List MO)} {f : List V → List MO → Option γ} {r : γ} {G : Prop} (k : ∀ a b, x = some (a, b) → f a b = some r → G) : (match (generalizing := false) x with | some (a, b) => f a b | none => none) = some r → G := match x, k with | some a, k => k a.1 a.2 rfl | none, _ => ns
theorem zPII {γ : Type} {x : Option (Int × Int)} {f : Int → Int → Option γ} {r : γ} {G : Prop} (k : ∀ a b, x = some (a, b) → f a b = some r → G) : (match (generalizing := false) x with | some (a, b) => f a b | none => none) = some r → G := match x, k with | some a, k => k a.1 a.2 rfl | none, _ => ns
theorem zPVB {γ : Type} {x : Option (V × Bool)} {f : V → Bool → Option γ} {r : γ} {G : Prop} (k : ∀ a b, x = some (a, b) → f a b = some r → G) : (match (generalizing := false) x with | some (a, b) => f a b | none => none) = some r → G := match x, k with | some a, k => k a.1 a.2 rfl | none, _ => ns
theorem zB {γ : Type} {x : Bool} {f : Option γ} {r : γ} {G : Prop} (k : x = true → f = some r → G) : (match (generalizing := false) x with | true => f | false => none) = some r → G := match x, k with | true, k => k rfl | false, _ => ns
theorem zBf {γ : Type} {x : Bool} {f : Option γ} {r : γ} {G : Prop} (k : x = true → f = some r → G) : (match (generalizing := false) x with | false => none | true => f) = some r → G := match x, k with | true, k => k rfl | false, _ => ns
theorem zBn {γ : Type} {x : Bool} {f : Option γ} {r : γ} {G : Prop} (k : x = false → f = some r → G) : (match (generalizing := false) x with | true => none | false => f) = some r → G := match x, k with | false, k => k rfl | true, _ => ns
theorem zBnf {γ : Type} {x : Bool} {f : Option γ} {r : γ} {G : Prop} (k : x = false → f = some r → G) : (match (generalizing := false) x with | false => f | true => none) = some r → G := match x, k with | false, k => k rfl | true, _ => ns
theorem zT {x f : Bool} {G : Prop} (k : x = true → f = true → G) : (match (generalizing := false) x with | true => f | false => false) = true → G := match x, k with | true, k => k rfl | false, _ => ft
end Mine

end
section -- Inv
namespace Mine
open PySem PySem.W PySem.Calls PyProof.Rows

structure Glb where
  prog : Program
  w : World
  R : Rc
  p : Program
  loose : List Str
  mean : ExcName → Option Value
  mg : Str → Option Value
  mb : Str → Option Value
  lamT : List (Addr × Addr × Str)
structure RcOk (R : Rc) : Prop where
  Θm : ∀ {t d a ch ρ pu ρ' pu'}, Pre ρ ρ' → Sub pu pu' → R.Θ t d a ch ρ pu → R.Θ t d a ch ρ' pu'
  TBm : ∀ {tb pu pu'}, Sub pu pu' → R.TB tb pu → R.TB tb pu'

inductive MOR (R : Rc) (ρ : List Addr) (pu : Led) : MO → Addr → Led → Prop
  | lst {a : Addr} {l : List V} {vs : List Value} {n : Nat} : VRs R ρ pu l vs → MOR R ρ pu (.lst l) a [(a, listOf vs.toArray n)]
  | obj {a dx C : Addr} {ns : List Str} {l : List V} {es : List DictEntry} {n : Nat} : VRd R ρ pu ns l es → MOR R ρ pu (.obj C ns l) a [(a, instObj C dx), (dx, dictOf es n)]
  | abs {t : Nat} {d : List V} {a : Addr} {ch : Led} : R.Θ t d a ch ρ pu → MOR R ρ pu (.abs t d) a ch
  | dead {a : Addr} : MOR R ρ pu .dead a []
theorem MOR.lst_inv {R : Rc} {ρ : List Addr} {pu : Led} {l : List V} {a : Addr} {c : Led} (h : MOR R ρ pu (.lst l) a c) : ∃ vs n, c = [(a, listOf (List.toArray vs) n)] ∧ VRs R ρ pu l vs := by cases h with | lst h => exact ⟨_, _, rfl, h⟩
theorem MOR.obj_inv {R : Rc} {ρ : List Addr} {pu : Led} {C : Addr} {ns : List Str} {l : List V} {a : Addr} {c : Led} (h : MOR R ρ pu (.obj C ns l) a c) : ∃ dx es n, c = [(a, instObj C dx), (dx, dictOf es n)] ∧ VRd R ρ pu ns l es := by cases h with | obj h => exact ⟨_, _, _, rfl, h⟩
theorem MOR.abs_inv {R : Rc} {ρ : List Addr} {pu : Led} {t : Nat} {d : List V} {a : Addr} {c : Led} (h : MOR R ρ pu (.abs t d) a c) : R.Θ t d a c ρ pu := by cases h with | abs h => exact h
theorem MOR.dead_inv {R : Rc} {ρ : List Addr} {pu : Led} {a : Addr} {c : Led} (h : MOR R ρ pu .dead a c) : c = [] := by (first | exact Mine.ns h | exact Mine.ft h | exact Mine.sn h | exact Mine.tf h | cases h); rfl
inductive MORs (R : Rc) (ρ : List Addr) (pu : Led) : List MO → List Addr → List Led → Prop
  | nil : MORs R ρ pu [] [] []
  | cons {m : MO} {ms : List MO} {a : Addr} {as : List Addr} {c : Led} {cs : List Led} : MOR R ρ pu m a c → MORs R ρ pu ms as cs → MORs R ρ pu (m :: ms) (a :: as) (c :: cs)

noncomputable def NmR (R : Rc) (ρ : List Addr) (pu : Led) (env : Env) (mm : Str → Option Value) (own : Led) (loc : List (Str × V)) : Prop :=
  ∀ x d, loc.lookup x = some d →
    (env.kindOf x = some .local ∧ ∃ v, mm x = some v ∧ VR R ρ pu d v) ∨
    ((env.kindOf x = some .cell ∨ (env.kindOf x = some .free ∧ (x == ("__classdict__" : Str)) = false)) ∧ ∃ c o v, env.cells.lookup x = some c ∧ (c, o) ∈ own ++ pu ∧ o.data = .cell (some v) ∧ VR R ρ pu d v)

noncomputable abbrev LED (fr own tb : Led) (chs : List Led) (pu : Led) : Led := fr ++ (own ++ (tb ++ (chs.flatten ++ pu)))
noncomputable abbrev ZP := (Str → Option Value) → Prop
noncomputable abbrev Z0 : ZP := fun _ => True
structure InvW (R : Rc) (Z : ZP) (env : Env) (h₀ : Heap) (L : Addr) (fr own : Led) (st : St) (ρ : List Addr) (pu : Led) (h : Heap) (m mm : Str → Option Value) (tb : Led) (chs : List Led) : Prop where
  F : Fr h₀ L h m
  z : Z m
  N : News h₀ L h (LED fr own tb chs pu)
  nd : ((LED fr own tb chs pu).map (·.1)).Nodup
  ns : (env.locals = L ∧ mm = m) ∨ (∃ oC, (env.locals, oC) ∈ own ∧ LCg.NsObj oC mm)
  nm : NmR R ρ pu env mm own st.l
  ms : MORs R ρ pu st.h ρ chs
  tb : R.TB tb pu
inductive Inv (R : Rc) (Z : ZP) (env : Env) (h₀ : Heap) (L : Addr) (fr own : Led) (st : St) (ρ : List Addr) (pu : Led) (h : Heap) : Prop
  | mk (m mm : Str → Option Value) (tb : Led) (chs : List Led) (W : InvW R Z env h₀ L fr own st ρ pu h m mm tb chs) : Inv R Z env h₀ L fr own st ρ pu h
noncomputable def Same (s s' : Shared) : Prop := ∃ h tk, s' = { s with heap := h, toks := tk }
theorem Same.refl (s : Shared) : Same s s := ⟨s.heap, s.toks, rfl⟩
theorem Same.trans {a b c : Shared} (h : Same a b) (k : Same b c) : Same a c := by
  obtain ⟨_, _, rfl⟩ := h
  obtain ⟨_, _, rfl⟩ := k
  exact ⟨_, _, rfl⟩
theorem Same.toks (s : Shared) (h : Heap) (tk : Nat) : Same s { s with heap := h, toks := tk } := ⟨_, _, rfl⟩

section
variable {R : Rc} {ρ ρ' : List Addr} {pu pu' : Led}
theorem MOR.mono (ok : RcOk R) (h1 : Pre ρ ρ') (h2 : Sub pu pu') {m : MO} {a : Addr} {c : Led} (h : MOR R ρ pu m a c) : MOR R ρ' pu' m a c := by
  cases h with
  | lst h => exact .lst (h.mono h1 h2)
  | obj h => exact .obj (h.mono h1 h2)
  | abs h => exact .abs (ok.Θm h1 h2 h)
  | dead => exact .dead
theorem MORs.mono (ok : RcOk R) (h1 : Pre ρ ρ') (h2 : Sub pu pu') {ms : List MO} {as : List Addr} {cs : List Led} (h : MORs R ρ pu ms as cs) : MORs R ρ' pu' ms as cs := by
  induction h with
  | nil => exact .nil
  | cons h _ ih => exact .cons (h.mono ok h1 h2) ih
theorem MORs.len {ms : List MO} {as : List Addr} {cs : List Led} (h : MORs R ρ pu ms as cs) : as.length = ms.length ∧ cs.length = ms.length := by
  induction h with
  | nil => exact ⟨rfl, rfl⟩
  | cons _ _ ih => simp [ih.1, ih.2]
theorem MORs.snoc {ms : List MO} {as : List Addr} {cs : List Led} (h : MORs R ρ pu ms as cs) {m : MO} {a : Addr} {c : Led} (k : MOR R ρ pu m a c) : MORs R ρ pu (ms ++ [m]) (as ++ [a]) (cs ++ [c]) := by
  induction h with
  | nil => exact .cons k .nil
  | cons h _ ih => exact .cons h ih
/-- one object, and what it takes to change it -/
theorem MORs.at {ms : List MO} {as : List Addr} {cs : List Led} (h : MORs R ρ pu ms as cs) {n : Nat} {m : MO} (e : ms[n]? = some m) :
    ∃ a c, as[n]? = some a ∧ cs[n]? = some c ∧ MOR R ρ pu m a c ∧ ∀ (m' : MO) (c' : Led), MOR R ρ pu m' a c' → MORs R ρ pu (ms.set n m') as (cs.set n c') := by
  induction h generalizing n with
  | nil => (first | exact Mine.ns e | exact Mine.ft e | exact Mine.sn e | exact Mine.tf e | cases e)
  | cons h hr ih =>
    cases n with
    | zero =>
      (first | exact Mine.ns e | exact Mine.ft e | exact Mine.sn e | exact Mine.tf e | cases e)
      exact ⟨_, _, rfl, rfl, h, fun m' c' k => .cons k hr⟩
    | succ n =>
      obtain ⟨a, c, h1, h2, h3, h4⟩ := ih e
      exact ⟨a, c, h1, h2, h3, fun m' c' k => .cons h (h4 m' c' k)⟩
theorem NmR.mono (h1 : Pre ρ ρ') (h2 : Sub pu pu') {env : Env} {mm : Str → Option Value} {own : Led} {loc : List (Str × V)} (h : NmR R ρ pu env mm own loc) : NmR R ρ' pu' env mm own loc := by
  intro x d e
  rcases h x d e with ⟨k, v, a, b⟩ | ⟨k, c, o, v, a, b, e', f⟩
  · exact .inl ⟨k, v, a, b.mono h1 h2⟩
  · refine .inr ⟨k, c, o, v, a, ?_, e', f.mono h1 h2⟩
    rcases List.mem_append.mp b with b | b
    · exact List.mem_append_left _ b
    · exact List.mem_append_right _ (h2 _ b)
end

theorem flat_set_mem {α : Type} {cs : List (List α)} {n : Nat} {c c' : List α} (h : cs[n]? = some c) : ∃ pre post, cs.flatten = pre ++ (c ++ post) ∧ (cs.set n c').flatten = pre ++ (c' ++ post) := by
  induction cs generalizing n with
  | nil => (first | exact Mine.ns h | exact Mine.ft h | exact Mine.sn h | exact Mine.tf h | cases h)
  | cons x r ih =>
    cases n with
    | zero => (first | exact Mine.ns h | exact Mine.ft h | exact Mine.sn h | exact Mine.tf h | cases h); exact ⟨[], r.flatten, by simp, by simp⟩
    | succ n =>
      obtain ⟨pre, post, a, b⟩ := ih h
      exact ⟨x ++ pre, post, by simp [a], by simp [b]⟩

section
variable {R : Rc} {Z : ZP} {env : Env} {h₀ : Heap} {L : Addr} {st : St} {ρ : List Addr} {pu : Led} {h h' : Heap} {m mm : Str → Option Value} {fr own tb : Led} {chs : List Led}
theorem InvW.nsAt (I : InvW R Z env h₀ L fr own st ρ pu h m mm tb chs) : h.Ns env.locals mm := by
  rcases I.ns with ⟨e, rfl⟩ | ⟨oC, hm, hn⟩
  · rw [e]; exact I.F.ns
  · exact hn.ns (I.N _ (List.mem_append_right _ (List.mem_append_left _ hm))).1
theorem InvW.ownMem (I : InvW R Z env h₀ L fr own st ρ pu h m mm tb chs) {a : Addr} {o : Obj} (hm : (a, o) ∈ own) : h.get? a = some o :=
  (I.N _ (List.mem_append_right _ (List.mem_append_left _ hm))).1
theorem InvW.puMem (I : InvW R Z env h₀ L fr own st ρ pu h m mm tb chs) {a : Addr} {o : Obj} (hm : (a, o) ∈ pu) : h.get? a = some o :=
  (I.N _ (List.mem_append_right _ (List.mem_append_right _ (List.mem_append_right _ (List.mem_append_right _ hm))))).1
theorem fresh_lt {news : Led} {a : Addr} (h : ∀ p ∈ news, p.1 < a) : a ∉ news.map (·.1) := fun q => by
  obtain ⟨p, hp, e⟩ := List.mem_map.mp q
  have := h p hp
  rw [e] at this
  exact Nat.lt_irrefl _ this
theorem News.lt {h₀ h : Heap} {L : Addr} {news : Led} (N : News h₀ L h news) : ∀ p ∈ news, p.1 < h.objs.size := fun p hp => Heap.lt_size (N p hp).1
/-- a new object that nothing will change -/
theorem InvW.pure (ok : RcOk R) (I : InvW R Z env h₀ L fr own st ρ pu h m mm tb chs) {x : Addr × Obj} (F' : Fr h₀ L h' m) (N' : News h₀ L h' (x :: LED fr own tb chs pu)) (fs : x.1 ∉ (LED fr own tb chs pu).map (·.1)) :
    InvW R Z env h₀ L fr own st ρ (x :: pu) h' m mm tb chs := by
  have sub : Sub pu (x :: pu) := fun p hp => List.mem_cons_of_mem _ hp
  have pm : List.Perm (LED fr own tb chs (x :: pu)) (x :: LED fr own tb chs pu) := by
    unfold LED
    have e : fr ++ (own ++ (tb ++ (chs.flatten ++ x :: pu))) = (fr ++ (own ++ (tb ++ chs.flatten))) ++ x :: pu := by simp
    have e2 : x :: (fr ++ (own ++ (tb ++ (chs.flatten ++ pu)))) = x :: ((fr ++ (own ++ (tb ++ chs.flatten))) ++ pu) := by simp
    rw [e, e2]
    exact List.perm_middle
  refine ⟨F', I.z, fun p hp => N' p (pm.mem_iff.mp hp), ?_, ?_, I.nm.mono (Pre.refl _) sub, I.ms.mono ok (Pre.refl _) sub, ok.TBm sub I.tb⟩
  · rw [(pm.map (·.1)).nodup_iff, List.map_cons, List.nodup_cons]
    exact ⟨fs, I.nd⟩
  · rcases I.ns with e | ⟨oC, hm, hn⟩
    · exact .inl e
    · exact .inr ⟨oC, hm, hn⟩
/-- the same ledger at another heap -/
theorem InvW.again (I : InvW R Z env h₀ L fr own st ρ pu h m mm tb chs) (F' : Fr h₀ L h' m) (N' : News h₀ L h' (LED fr own tb chs pu)) : InvW R Z env h₀ L fr own st ρ pu h' m mm tb chs :=
  ⟨F', I.z, N', I.nd, I.ns, I.nm, I.ms, I.tb⟩
/-- a new object of the mini heap -/
theorem InvW.snoc (ok : RcOk R) (I : InvW R Z env h₀ L fr own st ρ pu h m mm tb chs) {a : Addr} {c : Led} {mo : MO} (F' : Fr h₀ L h' m) (N' : News h₀ L h' (c ++ LED fr own tb chs pu)) (hc : (c.map (·.1)).Nodup)
    (fs : ∀ q ∈ c, q.1 ∉ (LED fr own tb chs pu).map (·.1)) (hmo : MOR R (ρ ++ [a]) pu mo a c) : InvW R Z env h₀ L fr own { st with h := st.h ++ [mo] } (ρ ++ [a]) pu h' m mm tb (chs ++ [c]) := by
  have pre : Pre ρ (ρ ++ [a]) := Pre.snoc ρ a
  have pm : List.Perm (LED fr own tb (chs ++ [c]) pu) (c ++ LED fr own tb chs pu) := by
    unfold LED
    rw [List.flatten_append, List.flatten_singleton]
    have e : fr ++ (own ++ (tb ++ ((chs.flatten ++ c) ++ pu))) = (fr ++ (own ++ (tb ++ chs.flatten))) ++ (c ++ pu) := by simp
    have e2 : c ++ (fr ++ (own ++ (tb ++ (chs.flatten ++ pu)))) = (c ++ (fr ++ (own ++ (tb ++ chs.flatten)))) ++ pu := by simp
    rw [e, e2, ← List.append_assoc]
    exact List.Perm.append_right _ List.perm_append_comm
  refine ⟨F', I.z, fun p hp => N' p (pm.mem_iff.mp hp), ?_, I.ns, I.nm.mono pre (Sub.refl _), (I.ms.mono ok pre (Sub.refl _)).snoc hmo, I.tb⟩
  rw [(pm.map (·.1)).nodup_iff, List.map_append, List.nodup_append]
  refine ⟨hc, I.nd, ?_⟩
  rintro x hx y hy rfl
  obtain ⟨q, hq, e⟩ := List.mem_map.mp hx
  exact fs q hq (e ▸ hy)
/-- an object of the mini heap changed: its chunk from c to c' over the same addresses -/
theorem InvW.set (I : InvW R Z env h₀ L fr own st ρ pu h m mm tb chs) {n : Nat} {mo mo' : MO} {c c' : Led} {a : Addr} (e : st.h[n]? = some mo) (ec : chs[n]? = some c) (hset : MORs R ρ pu (st.h.set n mo') ρ (chs.set n c'))
    (had : c'.map (·.1) = c.map (·.1)) (F' : Fr h₀ L h' m) (N' : News h₀ L h' (LED fr own tb (chs.set n c') pu)) : InvW R Z env h₀ L fr own { st with h := st.h.set n mo' } ρ pu h' m mm tb (chs.set n c') := by
  obtain ⟨pre, post, p1, p2⟩ := flat_set_mem (c' := c') ec
  refine ⟨F', I.z, N', ?_, I.ns, I.nm, hset, I.tb⟩
  have nd := I.nd
  unfold LED at nd ⊢
  rw [p1] at nd
  rw [p2]
  simp only [List.map_append] at nd ⊢
  rw [had]; exact nd
end
end Mine

end
section -- Tab
namespace Mine
open PySem
noncomputable def constE : Expr → V
  | .Constant c _ _ => (match constV c with | some v => v | none => .any)
  | _ => .any
noncomputable def frOf : Stmt → FR
  | .FunctionDef n a b _ _ _ sc _ _ _ => { name := n, ps := argNames a, ds := a.defaults.map constE, body := b, sc := sc }
  | _ => { name := default, ps := [], ds := [], body := [], sc := default }
noncomputable def clsBody : Stmt → List Stmt
  | .ClassDef _ _ _ b _ _ _ _ _ _ _ => b
  | _ => []
noncomputable def fdef (i : Nat) : FR := frOf (P.main.body.getD i default)
noncomputable def mdef (i j : Nat) : FR := frOf ((clsBody (P.main.body.getD i default)).getD j default)
noncomputable def alook {α : Type} (a : Nat) : List (Nat × α) → Option α
  | [] => none
  | p :: r => match Nat.beq p.1 a with | true => some p.2 | false => alook a r
noncomputable def ftab : List (Nat × FR) := [
  (28, fdef 2),
  (33, fdef 3),
  (40, fdef 4),
  (45, fdef 5),
  (113, fdef 13),
  (148, fdef 18),
  (155, fdef 19),
  (163, fdef 23),
  (184, fdef 26),
  (198, fdef 28),
  (205, fdef 29),
  (212, fdef 32),
  (219, fdef 33),
  (226, fdef 34),
  (233, fdef 35),
  (240, fdef 36),
  (254, fdef 38),
  (261, fdef 39),
  (274, fdef 47),
  (281, fdef 48),
  (288, fdef 49),
  (295, fdef 50),
  (302, fdef 51),
  (316, mdef 52 0),
  (323, mdef 52 1),
  (330, mdef 52 2),
  (337, mdef 52 3),
  (344, mdef 52 4),
  (351, mdef 52 5),
  (358, mdef 52 6),
  (379, mdef 52 9),
  (386, mdef 52 10),
  (393, mdef 52 11),
  (408, fdef 53),
  (415, fdef 57),
  (435, mdef 59 0),
  (443, mdef 59 1),
  (464, mdef 59 4),
  (472, mdef 59 5),
  (479, mdef 59 6),
  (486, mdef 59 7),
  (500, mdef 59 9),
  (515, mdef 59 11),
  (522, mdef 59 12),
  (537, mdef 59 14),
  (544, mdef 59 15),
  (551, mdef 59 16),
  (558, mdef 59 17),
  (565, mdef 59 18),
  (609, mdef 61 0),
  (630, fdef 63),
  (637, fdef 64),
  (644, fdef 65),
  (651, fdef 66),
  (656, fdef 67),
  (663, fdef 68),
  (668, fdef 69)]
noncomputable def mtab : List (Nat × List (Str × Nat)) := [
  (396, [("either", 323), ("both", 330), ("turned", 337), ("single", 344), ("unbracketed", 351), ("in_brackets", 358), ("predicate", 379), ("relation", 386), ("sign_here", 393)]),
  (589, [("peek", 443), ("take", 464), ("is_kind", 472), ("is_word", 479), ("skip", 486), ("one_of", 500), ("is_name", 515), ("name", 522), ("is_sign", 537), ("skip_sign", 544), ("need_sign", 551), ("is_number", 558), ("signed", 565)]),
  (619, [])]
noncomputable def ctab : List (Nat × Nat × Bool) := [(396, 316, false), (589, 435, false), (619, 609, true)]
noncomputable def gv (x : String) (a : Nat) : Str × V := (Str.ofString x, V.val (.ref a))
noncomputable def gtab1 : List (Str × V) := [
  gv "and_parts" 28,
  gv "key_place" 33,
  gv "key_row" 40,
  gv "key_rows" 45,
  gv "decimal" 113,
  gv "worth_of" 148,
  gv "read_decimal" 155,
  gv "is_part_next" 163,
  gv "read_ref" 184,
  gv "read_figure" 198,
  gv "read_operand" 205,
  gv "read_expression" 212,
  gv "sign_among" 219,
  gv "read_sum" 226,
  gv "read_product" 233,
  gv "read_factor" 240,
  gv "read_power" 254,
  gv "read_primary" 261,
  gv "word_here" 274,
  gv "is_relation_at" 281,
  gv "place_of_word" 288,
  gv "is_predicate_here" 295,
  gv "is_bare_relation_here" 302,
  gv "read_condition" 408,
  gv "is_reserved" 415,
  gv "_law_take" 630]
noncomputable def gtab2 : List (Str × V) := [
  gv "_law_read" 637,
  gv "_law_item" 644,
  gv "_law_part" 651,
  gv "_law_due" 656,
  gv "_law_table_right" 663,
  gv "law" 668,
  gv "ConditionReader" 396,
  gv "Reader" 589,
  gv "Token" 619,
  (("MOST_DEEP_expressions" : Str), V.int 20),
  (("MOST_DEEP_conditions" : Str), V.int 20),
  (("FIGURES" : Str), V.str "0123456789"),
  (("RESERVED" : Str), V.str resv),
  gv "FIGURE_NAMES" 156,
  gv "WORDS_OF_SIGNS" 264,
  gv "WORDS_OF_RELATIONS" 265,
  gv "OPPOSITES" 262,
  (("CLASSES" : Str), V.tup [.str "NUMERIC", .str "ALPHABETIC", .str "ALPHABETIC-LOWER", .str "ALPHABETIC-UPPER"]),
  (("RELATIONS" : Str), V.tup [.str "=", .str "<", .str ">", .str "<=", .str ">="]),
  (("len" : Str), V.bi 0),
  (("range" : Str), V.bi 1),
  (("sorted" : Str), V.bi 2),
  (("list" : Str), V.bi 3),
  (("tuple" : Str), V.bi 4),
  (("str" : Str), V.bi 5),
  (("abs" : Str), V.bi 6)]
noncomputable def gtab : List (Str × V) := gtab1 ++ gtab2
noncomputable def dtab : List (Nat × List Str) := [
  (156, ["ZERO", "ZEROS", "ZEROES", "SPACE", "SPACES", "HIGH-VALUE", "HIGH-VALUES", "LOW-VALUE", "LOW-VALUES", "QUOTE", "QUOTES"]),
  (264, ["POSITIVE", "NEGATIVE", "ZERO", "ZEROS", "ZEROES"]),
  (265, ["GREATER", "LESS", "EQUAL"])]
noncomputable def atab : List (Nat × List Str) := [(396, ["reader", "is_named", "depth", "last"]), (589, ["tokens", "at", "named"]), (619, ["kind", "worth", "at", "is_in_a"])]
noncomputable def par0 : Par where
  sg := fun _ _ _ => none
  sd := 0
  ft := fun a => alook a ftab
  gt := fun x => slook x gtab
  ci := fun a => alook a ctab
  mt := fun a x => (alook a mtab).bind fun l => slook x l
  fx := fun _ _ => none
  ck := fun a => (alook a ftab).isSome || (alook a ctab).isSome
  sa := fun C a => match alook C atab with | some l => l.any (seq a) | none => false
  dk := fun a => alook a dtab
noncomputable def words (l : List String) : V := .lst (l.map fun s => .str (Str.ofString s))
noncomputable def keysV (b : Bool) : V := .tup [.tup [.bool true, .str "KA"], .tup [.bool b, .str "KB"], .tup [.bool false, .str "KC"]]
end Mine

end
section -- VB
namespace Mine
open PySem
/-! ## equality of values, as a Bool -/
theorem seqB_iff {a b : Str} (h : seq a b = true) : a = b := (seq_iff a b).mp h
noncomputable def ssB : List Str → List Str → Bool
  | [], [] => true
  | a :: r, b :: q => match seq a b with | true => ssB r q | false => false
  | _, _ => false
theorem ssB_iff : ∀ {a b : List Str}, ssB a b = true → a = b
  | [], [], _ => rfl
  | [], _ :: _, h => by (first | exact Mine.ns h | exact Mine.ft h | exact Mine.sn h | exact Mine.tf h | cases h)
  | _ :: _, [], h => by (first | exact Mine.ns h | exact Mine.ft h | exact Mine.sn h | exact Mine.tf h | cases h)
  | a :: r, b :: q, h => by
    unfold ssB at h
    revert h; refine zT fun _ h => ?_
    rename_i e
    rw [seqB_iff e, ssB_iff h]
set_option backward.match.sparseCases false in
noncomputable def nkB : NameKind → NameKind → Bool
  | .local, .local => true
  | .globalImplicit, .globalImplicit => true
  | _, _ => false
noncomputable def nksB : List (Str × NameKind) → List (Str × NameKind) → Bool
  | [], [] => true
  | a :: r, b :: q => match seq a.1 b.1 && nkB a.2 b.2 with | true => nksB r q | false => false
  | _, _ => false
theorem nkB_iff {a b : NameKind} (h : nkB a b = true) : a = b := by
  (first | exact Mine.ns a | exact Mine.ft a | exact Mine.sn a | exact Mine.tf a | cases a) <;> (first | exact Mine.ns b | exact Mine.ft b | exact Mine.sn b | exact Mine.tf b | cases b) <;> first | rfl | (first | exact Mine.ns h | exact Mine.ft h | exact Mine.sn h | exact Mine.tf h | cases h)
theorem nksB_iff : ∀ {a b : List (Str × NameKind)}, nksB a b = true → a = b
  | [], [], _ => rfl
  | [], _ :: _, h => by (first | exact Mine.ns h | exact Mine.ft h | exact Mine.sn h | exact Mine.tf h | cases h)
  | _ :: _, [], h => by (first | exact Mine.ns h | exact Mine.ft h | exact Mine.sn h | exact Mine.tf h | cases h)
  | a :: r, b :: q, h => by
    unfold nksB at h
    revert h; refine zT fun _ h => ?_
    rename_i e
    rw [Bool.and_eq_true] at e
    rw [Prod.ext (seqB_iff e.1) (nkB_iff e.2), nksB_iff h]
noncomputable def isFnK : ScopeKind → Bool
  | .function => true
  | _ => false
noncomputable def isNil {α : Type} : List α → Bool
  | [] => true
  | _ => false
noncomputable def beqb : Bool → Bool → Bool
  | true, true => true
  | false, false => true
  | _, _ => false
theorem beqb_iff {a b : Bool} (h : beqb a b = true) : a = b := by (first | exact Mine.ns a | exact Mine.ft a | exact Mine.sn a | exact Mine.tf a | cases a) <;> (first | exact Mine.ns b | exact Mine.ft b | exact Mine.sn b | exact Mine.tf b | cases b) <;> first | rfl | (first | exact Mine.ns h | exact Mine.ft h | exact Mine.sn h | exact Mine.tf h | cases h)
noncomputable def scB (a b : Scope) : Bool := isFnK a.kind && isFnK b.kind && nksB a.names b.names && beqb a.isGenerator b.isGenerator && beqb a.isCoroutine b.isCoroutine && isNil a.more && isNil b.more
theorem scB_iff {a b : Scope} (h : scB a b = true) : a = b := by
  obtain ⟨ak, an, ag, ac, am⟩ := a
  obtain ⟨bk, bn, bg, bc, bm⟩ := b
  unfold scB at h
  simp only [Bool.and_eq_true] at h
  obtain ⟨⟨⟨⟨⟨⟨h1, h2⟩, h3⟩, h4⟩, h5⟩, h6⟩, h7⟩ := h
  have e1 : ak = bk := by (first | exact Mine.ns ak | exact Mine.ft ak | exact Mine.sn ak | exact Mine.tf ak | cases ak) <;> first | ((first | exact Mine.ns h1 | exact Mine.ft h1 | exact Mine.sn h1 | exact Mine.tf h1 | cases h1); done) | ((first | exact Mine.ns bk | exact Mine.ft bk | exact Mine.sn bk | exact Mine.tf bk | cases bk) <;> first | rfl | ((first | exact Mine.ns h2 | exact Mine.ft h2 | exact Mine.sn h2 | exact Mine.tf h2 | cases h2); done))
  have e6 : am = bm := by (first | exact Mine.ns am | exact Mine.ft am | exact Mine.sn am | exact Mine.tf am | cases am) <;> first | ((first | exact Mine.ns h6 | exact Mine.ft h6 | exact Mine.sn h6 | exact Mine.tf h6 | cases h6); done) | ((first | exact Mine.ns bm | exact Mine.ft bm | exact Mine.sn bm | exact Mine.tf bm | cases bm) <;> first | rfl | ((first | exact Mine.ns h7 | exact Mine.ft h7 | exact Mine.sn h7 | exact Mine.tf h7 | cases h7); done))
  rw [e1, nksB_iff h3, beqb_iff h4, beqb_iff h5, e6]
set_option backward.match.sparseCases false in
noncomputable def cstOf : Expr → Option (Bool × Nat × Pos)
  | .Constant (.bool b) k p => some (b, k, p)
  | _ => none
noncomputable def posB (a b : Pos) : Bool := Nat.beq a.line b.line && Nat.beq a.col b.col && Nat.beq a.endLine b.endLine && Nat.beq a.endCol b.endCol
theorem posB_iff {a b : Pos} (h : posB a b = true) : a = b := by
  obtain ⟨a1, a2, a3, a4⟩ := a
  obtain ⟨b1, b2, b3, b4⟩ := b
  unfold posB at h
  simp only [Bool.and_eq_true] at h
  obtain ⟨⟨⟨h1, h2⟩, h3⟩, h4⟩ := h
  rw [Nat.eq_of_beq_eq_true h1, Nat.eq_of_beq_eq_true h2, Nat.eq_of_beq_eq_true h3, Nat.eq_of_beq_eq_true h4]
noncomputable def cxB (a b : Expr) : Bool := ((cstOf a).bind fun q => (cstOf b).bind fun r => bif beqb q.1 r.1 && Nat.beq q.2.1 r.2.1 && posB q.2.2 r.2.2 then some () else none).isSome
theorem cstOf_some {a : Expr} {q : Bool × Nat × Pos} (h : cstOf a = some q) : a = .Constant (.bool q.1) q.2.1 q.2.2 := by
  cases a with
  | Constant c k' p' => cases c with
    | bool b => rw [← Option.some.inj h]
    | _ => (first | exact Mine.ns h | exact Mine.ft h | exact Mine.sn h | exact Mine.tf h | cases h)
  | _ => (first | exact Mine.ns h | exact Mine.ft h | exact Mine.sn h | exact Mine.tf h | cases h)
theorem cxB_iff {a b : Expr} (h : cxB a b = true) : a = b := by
  obtain ⟨_, h⟩ := Option.isSome_iff_exists.mp h
  obtain ⟨q, e1, h⟩ := bind2 h
  obtain ⟨r, e2, h⟩ := bind2 h
  replace h := and3 (bif_some h).1
  rw [cstOf_some e1, cstOf_some e2, beqb_iff h.1.1, Nat.eq_of_beq_eq_true h.1.2, posB_iff h.2]
theorem ieqB_iff {a b : Int} (h : ieq a b = true) : a = b := by
  (first | exact Mine.ns a | exact Mine.ft a | exact Mine.sn a | exact Mine.tf a | cases a) <;> (first | exact Mine.ns b | exact Mine.ft b | exact Mine.sn b | exact Mine.tf b | cases b) <;> first | (exact congrArg _ (Nat.eq_of_beq_eq_true h)) | (first | exact Mine.ns h | exact Mine.ft h | exact Mine.sn h | exact Mine.tf h | cases h)
set_option backward.match.sparseCases false in
noncomputable def asObj : V → Option (Addr × List Str × List V) | .obj a b c => some (a, b, c) | _ => none
noncomputable def asClo : V → Option (List Str × Expr × Scope) | .clo a b c => some (a, b, c) | _ => none
set_option backward.match.sparseCases false in
noncomputable def isAny : V → Bool | .any => true | _ => false
mutual
noncomputable def vB : V → V → Bool
  | .none, b => isNoneV b
  | .bool x, b => (match bOf b with | some y => beqb x y | none => false)
  | .int x, b => (match intOf b with | some y => ieq x y | none => false)
  | .str x, b => (match strO b with | some y => seq x y | none => false)
  | .tup x, b => (match tupOf b with | some y => vsB x y | none => false)
  | .lst x, b => (match lstO b with | some y => vsB x y | none => false)
  | .obj C ns x, b => (match asObj b with | some (D, ms, y) => Nat.beq C D && ssB ns ms && vsB x y | none => false)
  | .nm x, b => (match nmOf b with | some y => Nat.beq x y | none => false)
  | .off x i, b => (match offOf b with | some (y, j) => Nat.beq x y && ieq i j | none => false)
  | .loc x, b => (match locOf b with | some y => Nat.beq x y | none => false)
  | .clo ps e sc, b => (match asClo b with | some (qs, f, sd) => ssB ps qs && cxB e f && scB sc sd | none => false)
  | .any, b => isAny b
  | _, _ => false
noncomputable def vsB : List V → List V → Bool
  | [], b => isNil b
  | a :: r, b => (match b with | [] => false | x :: q => (match vB a x with | true => vsB r q | false => false))
end
mutual
theorem vB_iff : ∀ (a : V) {b : V}, vB a b = true → a = b
  | .none, b, h => by (first | exact Mine.ns b | exact Mine.ft b | exact Mine.sn b | exact Mine.tf b | cases b) <;> first | rfl | (first | exact Mine.ns h | exact Mine.ft h | exact Mine.sn h | exact Mine.tf h | cases h)
  | .bool x, b, h => by (first | exact Mine.ns b | exact Mine.ft b | exact Mine.sn b | exact Mine.tf b | cases b) <;> first | (exact congrArg _ (beqb_iff h)) | (first | exact Mine.ns h | exact Mine.ft h | exact Mine.sn h | exact Mine.tf h | cases h)
  | .int x, b, h => by (first | exact Mine.ns b | exact Mine.ft b | exact Mine.sn b | exact Mine.tf b | cases b) <;> first | (exact congrArg _ (ieqB_iff h)) | (first | exact Mine.ns h | exact Mine.ft h | exact Mine.sn h | exact Mine.tf h | cases h)
  | .str x, b, h => by (first | exact Mine.ns b | exact Mine.ft b | exact Mine.sn b | exact Mine.tf b | cases b) <;> first | (exact congrArg _ (seqB_iff h)) | (first | exact Mine.ns h | exact Mine.ft h | exact Mine.sn h | exact Mine.tf h | cases h)
  | .tup x, b, h => by (first | exact Mine.ns b | exact Mine.ft b | exact Mine.sn b | exact Mine.tf b | cases b) <;> first | (exact congrArg _ (vsB_iff x h)) | (first | exact Mine.ns h | exact Mine.ft h | exact Mine.sn h | exact Mine.tf h | cases h)
  | .lst x, b, h => by (first | exact Mine.ns b | exact Mine.ft b | exact Mine.sn b | exact Mine.tf b | cases b) <;> first | (exact congrArg _ (vsB_iff x h)) | (first | exact Mine.ns h | exact Mine.ft h | exact Mine.sn h | exact Mine.tf h | cases h)
  | .obj C ns x, b, h => by
    (first | exact Mine.ns b | exact Mine.ft b | exact Mine.sn b | exact Mine.tf b | cases b) <;> first | (first | exact Mine.ns h | exact Mine.ft h | exact Mine.sn h | exact Mine.tf h | cases h) | skip
    have h : (Nat.beq C _ && ssB ns _ && vsB x _) = true := h
    simp only [Bool.and_eq_true] at h
    rw [Nat.eq_of_beq_eq_true h.1.1, ssB_iff h.1.2, vsB_iff x h.2]
  | .nm x, b, h => by (first | exact Mine.ns b | exact Mine.ft b | exact Mine.sn b | exact Mine.tf b | cases b) <;> first | (exact congrArg _ (Nat.eq_of_beq_eq_true h)) | (first | exact Mine.ns h | exact Mine.ft h | exact Mine.sn h | exact Mine.tf h | cases h)
  | .off x i, b, h => by
    (first | exact Mine.ns b | exact Mine.ft b | exact Mine.sn b | exact Mine.tf b | cases b) <;> first | (first | exact Mine.ns h | exact Mine.ft h | exact Mine.sn h | exact Mine.tf h | cases h) | skip
    have h : (Nat.beq x _ && ieq i _) = true := h
    simp only [Bool.and_eq_true] at h
    rw [Nat.eq_of_beq_eq_true h.1, ieqB_iff h.2]
  | .loc x, b, h => by (first | exact Mine.ns b | exact Mine.ft b | exact Mine.sn b | exact Mine.tf b | cases b) <;> first | (exact congrArg _ (Nat.eq_of_beq_eq_true h)) | (first | exact Mine.ns h | exact Mine.ft h | exact Mine.sn h | exact Mine.tf h | cases h)
  | .clo ps e sc, b, h => by
    (first | exact Mine.ns b | exact Mine.ft b | exact Mine.sn b | exact Mine.tf b | cases b) <;> first | (first | exact Mine.ns h | exact Mine.ft h | exact Mine.sn h | exact Mine.tf h | cases h) | skip
    have h : (ssB ps _ && cxB e _ && scB sc _) = true := h
    simp only [Bool.and_eq_true] at h
    rw [ssB_iff h.1.1, cxB_iff h.1.2, scB_iff h.2]
  | .any, b, h => by (first | exact Mine.ns b | exact Mine.ft b | exact Mine.sn b | exact Mine.tf b | cases b) <;> first | rfl | (first | exact Mine.ns h | exact Mine.ft h | exact Mine.sn h | exact Mine.tf h | cases h)
  | .val _, b, h => by (first | exact Mine.ns h | exact Mine.ft h | exact Mine.sn h | exact Mine.tf h | cases h)
  | .bi _, b, h => by (first | exact Mine.ns h | exact Mine.ft h | exact Mine.sn h | exact Mine.tf h | cases h)
  | .rng _ _, b, h => by (first | exact Mine.ns h | exact Mine.ft h | exact Mine.sn h | exact Mine.tf h | cases h)
theorem vsB_iff : ∀ (a : List V) {b : List V}, vsB a b = true → a = b
  | [], b, h => by (first | exact Mine.ns b | exact Mine.ft b | exact Mine.sn b | exact Mine.tf b | cases b) <;> first | rfl | (first | exact Mine.ns h | exact Mine.ft h | exact Mine.sn h | exact Mine.tf h | cases h)
  | a :: r, b, h => by
    cases b with
    | nil => (first | exact Mine.ns h | exact Mine.ft h | exact Mine.sn h | exact Mine.tf h | cases h)
    | cons x q =>
      have h : (match vB a x with | true => vsB r q | false => false) = true := h
      revert h; refine zT fun _ h => ?_
      rename_i e
      rw [vB_iff a e, vsB_iff r h]
end
set_option backward.match.sparseCases false in
noncomputable def moB : MO → MO → Bool
  | .lst x, b => (match b with | .lst y => vsB x y | _ => false)
  | .obj C ns x, b => (match b with | .obj D ms y => Nat.beq C D && ssB ns ms && vsB x y | _ => false)
  | .abs t x, b => (match b with | .abs u y => Nat.beq t u && vsB x y | _ => false)
  | .dead, b => (match b with | .dead => true | _ => false)
theorem moB_iff : ∀ (a : MO) {b : MO}, moB a b = true → a = b
  | .lst x, b, h => by (first | exact Mine.ns b | exact Mine.ft b | exact Mine.sn b | exact Mine.tf b | cases b) <;> first | (exact congrArg _ (vsB_iff x h)) | (first | exact Mine.ns h | exact Mine.ft h | exact Mine.sn h | exact Mine.tf h | cases h)
  | .obj C ns x, b, h => by
    (first | exact Mine.ns b | exact Mine.ft b | exact Mine.sn b | exact Mine.tf b | cases b) <;> first | (first | exact Mine.ns h | exact Mine.ft h | exact Mine.sn h | exact Mine.tf h | cases h) | skip
    have h : (Nat.beq C _ && ssB ns _ && vsB x _) = true := h
    simp only [Bool.and_eq_true] at h
    rw [Nat.eq_of_beq_eq_true h.1.1, ssB_iff h.1.2, vsB_iff x h.2]
  | .abs t x, b, h => by
    (first | exact Mine.ns b | exact Mine.ft b | exact Mine.sn b | exact Mine.tf b | cases b) <;> first | (first | exact Mine.ns h | exact Mine.ft h | exact Mine.sn h | exact Mine.tf h | cases h) | skip
    have h : (Nat.beq t _ && vsB x _) = true := h
    simp only [Bool.and_eq_true] at h
    rw [Nat.eq_of_beq_eq_true h.1, vsB_iff x h.2]
  | .dead, b, h => by (first | exact Mine.ns b | exact Mine.ft b | exact Mine.sn b | exact Mine.tf b | cases b) <;> first | rfl | (first | exact Mine.ns h | exact Mine.ft h | exact Mine.sn h | exact Mine.tf h | cases h)
noncomputable def mosB : List MO → List MO → Bool
  | [], b => isNil b
  | a :: r, b => (match b with | [] => false | x :: q => (match moB a x with | true => mosB r q | false => false))
theorem mosB_iff : ∀ (a : List MO) {b : List MO}, mosB a b = true → a = b
  | [], b, h => by (first | exact Mine.ns b | exact Mine.ft b | exact Mine.sn b | exact Mine.tf b | cases b) <;> first | rfl | (first | exact Mine.ns h | exact Mine.ft h | exact Mine.sn h | exact Mine.tf h | cases h)
  | a :: r, b, h => by
    cases b with
    | nil => (first | exact Mine.ns h | exact Mine.ft h | exact Mine.sn h | exact Mine.tf h | cases h)
    | cons x q =>
      have h : (match moB a x with | true => mosB r q | false => false) = true := h
      revert h; refine zT fun _ h => ?_
      rename_i e
      rw [moB_iff a e, mosB_iff r h]
/-- a heap that begins so -/
noncomputable def mosP : List MO → List MO → Bool
  | [], _ => true
  | a :: r, b => (match b with | [] => false | x :: q => (match moB a x with | true => mosP r q | false => false))
theorem mosP_iff : ∀ (a : List MO) {b : List MO}, mosP a b = true → ∃ c, b = a ++ c
  | [], b, _ => ⟨b, rfl⟩
  | a :: r, b, h => by
    cases b with
    | nil => (first | exact Mine.ns h | exact Mine.ft h | exact Mine.sn h | exact Mine.tf h | cases h)
    | cons x q =>
      have h : (match moB a x with | true => mosP r q | false => false) = true := h
      revert h; refine zT fun _ h => ?_
      rename_i e
      obtain ⟨c, hc⟩ := mosP_iff r h
      exact ⟨c, by rw [moB_iff a e, hc]; rfl⟩
/-- what a call gives -/
noncomputable def outOk (o : Option (Out × St)) (v : V) (h : List MO) : Bool := match o with
  | some (.v x, ⟨[], g⟩) => vB v x && mosP h g
  | _ => false
theorem outOk_iff {o : Option (Out × St)} {v : V} {h : List MO} (k : outOk o v h = true) : ∃ g, o = some (.v v, ⟨[], h ++ g⟩) := by
  unfold outOk at k
  (first | (revert k; refine mb (fun _ k => ?_) (fun _ k => ?_)) | split at k)
  · rw [Bool.and_eq_true] at k
    obtain ⟨c, hc⟩ := mosP_iff h k.2
    exact ⟨c, by rw [vB_iff v k.1, hc]⟩
  · (first | exact Mine.ns k | exact Mine.ft k | exact Mine.sn k | exact Mine.tf k | cases k)
end Mine

end
section -- R0
namespace Mine
open PySem
/-! ## the shapes of parts -/
/-! ## the parts of the syntax -/
set_option backward.match.sparseCases false in
noncomputable def kidsE (x : Expr) : List Expr := match x with
  | .Call f as _ _ => f :: as
  | .IfExp t b o _ => [t, b, o]
  | .Compare l _ cs _ => l :: cs
  | .Subscript o i _ => [o, i]
  | .Attribute o _ _ => [o]
  | .Tuple es _ _ => es
  | .BinOp l _ r _ => [l, r]
  | .Slice _ u _ _ => u.toList
  | .ListComp e gs _ _ => e :: (gs.map (·.iter) ++ gs.map (·.target))
  | _ => []
noncomputable def kid (n : Nat) (x : Expr) : Expr := (kidsE x).getD n default
set_option backward.match.sparseCases false in
noncomputable def kidsS (x : Stmt) : List Expr := match x with
  | .Return v _ => v.toList
  | .If t _ _ _ => [t]
  | .Assign ts x _ => x :: ts
  | .Expr x _ => [x]
  | .For t i _ _ _ => [t, i]
  | _ => []
noncomputable def kidS (n : Nat) (x : Stmt) : Expr := (kidsS x).getD n default
set_option backward.match.sparseCases false in
noncomputable def subS (x : Stmt) : List Stmt := match x with
  | .If _ b _ _ => b
  | .For _ _ b _ _ => b
  | _ => []
noncomputable def retX (x : Stmt) : Expr := kidS 0 x
noncomputable def argAt (n : Nat) (x : Expr) : Expr := kid (n + 1) x
noncomputable def lamV : Expr → V
  | .Lambda a b lsc _ => .clo (argNames a) b lsc
  | _ => .any
noncomputable def lrB : List Stmt := (fdef 64).body
noncomputable def isnV : V := lamV (argAt 1 (retX (lrB.getD 2 default)))
noncomputable def tk (k : Str) (w : V) : V := .obj 619 ["kind", "worth", "at", "is_in_a"] [.str k, w, .any, .any]
noncomputable def tW (x : Str) : V := tk "word" (.str x)
noncomputable def tS (x : Str) : V := tk "sign" (.str x)
noncomputable def tN : V := tk "number" (.nm 0)
noncomputable def refV (x : Str) : V := .tup [.str "ref", .str x, .tup [], .tup [], .none]
noncomputable def numV (n : V) : V := .tup [.str "number", .tup [n, .int 0]]
noncomputable def relV (s : Str) (a b : V) : V := .tup [.str "rel", .str s, a, b]
noncomputable def rdO (toks i : V) : MO := .obj 589 ["tokens", "at", "named"] [toks, i, .any]
noncomputable def crO (isn last : V) : MO := .obj 396 ["reader", "is_named", "depth", "last"] [.loc 0, isn, .int 0, last]
noncomputable def kn : Nat → Str
  | 0 => "KA"
  | 1 => "KB"
  | _ => "KC"
/-- the tokens, the tree, and what is last; the number is a name -/
structure Shp where
  win : List V
  tree : V
  last : V
noncomputable def rel3 (s : Str) (a b : V) (ta tb : V) : Shp := ⟨[ta, tS s, tb], relV s a b, .tup [a, .str s]⟩
noncomputable def shpK (x : Str) : Nat → Shp
  | 8 => ⟨[tW x, tW "IS", tW "NUMERIC"], .tup [.str "class", .str "NUMERIC", refV x], .none⟩
  | 7 => rel3 "<" (refV x) (numV (.nm 1)) (tW x) tN
  | 6 => rel3 "=" (refV "N") (numV (.nm 1)) (tW "N") tN
  | 5 => rel3 "=" (refV x) (refV "KB") (tW x) (tW "KB")
  | 4 => rel3 "=" (refV "N") (refV x) (tW "N") (tW x)
  | 3 => rel3 "=" (numV (.nm 1)) (refV x) tN (tW x)
  | _ => rel3 "=" (refV x) (numV (.nm 1)) (tW x) tN
noncomputable def wrap (s : Shp) : Shp := ⟨tS "(" :: (s.win ++ [tS ")"]), s.tree, .none⟩
noncomputable def notS (s : Shp) : Shp := ⟨tW "NOT" :: s.win, .tup [.str "not", s.tree], s.last⟩
noncomputable def shpX : Shp := rel3 "=" (refV "KC") (refV "N") (tW "KC") (tW "N")
/-! ## facts by kind -/
structure Fxs where
  lt : V → V → Option V := fun _ _ => none
  sub : V → V → Option V := fun _ _ => none
  eq : V → V → Option V := fun _ _ => none
  gt : V → V → Option V := fun _ _ => none
  len : V → Option V := fun _ => none
  str : V → Option V := fun _ => none
noncomputable def mkFx (X : Fxs) (k : Nat) (l : List V) : Option V := match l with
  | [a] => (match Nat.beq k 4 with
    | true => X.len a
    | false => (match Nat.beq k 5 with | true => X.str a | false => none))
  | [a, b] => (match Nat.beq k 3 with
    | true => X.sub a b
    | false => (match Nat.beq k 2 with
      | true => X.lt a b
      | false => (match Nat.beq k 7 with
        | true => X.eq a b
        | false => (match Nat.beq k 8 with | true => X.gt a b | false => none))))
  | _ => none
/-! ## the run of turned -/
noncomputable def isNm (k : Nat) : V → Bool
  | .nm j => Nat.beq k j
  | _ => false
noncomputable def isOff (k : Nat) : V → Option Nat
  | .off j (.ofNat d) => (match Nat.beq k j with | true => some d | false => none)
  | _ => none
noncomputable def isStr : V → Option Str
  | .str x => some x
  | _ => none
noncomputable def ltT (w : Nat) (fin : Bool) (a b : V) : Option V := match isOff 3 a, isNm 4 b with
  | some d, true => (match Nat.blt d w with
    | true => some (.bool true)
    | false => (match fin && Nat.beq d w with | true => some (.bool false) | false => none))
  | _, _ => none
noncomputable def subT (win : List V) (a b : V) : Option V := match isNm 2 a, isOff 3 b with
  | true, some d => win[d]?
  | _, _ => none
noncomputable def eqT (a b : V) : Option V := match isNm 8 a, isStr b with
  | true, some x => (match seq x "AND" || seq x "OR" with | true => none | false => some (.bool false))
  | _, _ => none
noncomputable def lenT (a : V) : Option V := match isNm 2 a with
  | true => some (.nm 4)
  | false => none
noncomputable def fxT (win : List V) (fin : Bool) : Fxs := { lt := ltT win.length fin, sub := subT win, eq := eqT, len := lenT }
noncomputable def isName (x : Str) : Bool := seq x "KA" || seq x "KB" || seq x "KC" || seq x "N"
noncomputable def sgRes (x : V) (h : List MO) : Option (V × List MO) := match isStr x with
  | some x => (match isName x with | true => some (.bool false, h) | false => none)
  | none => none
noncomputable def sgDec (x : V) (h : List MO) : Option (V × List MO) := match isNm 0 x with
  | true => some (.tup [.nm 1, .int 0], h)
  | false => none
noncomputable def sgT (a : Addr) (args : List V) (h : List MO) : Option (V × List MO) := match args with
  | [x] => (match Nat.beq a 415 with
    | true => sgRes x h
    | false => (match Nat.beq a 155 with | true => sgDec x h | false => none))
  | _ => none
noncomputable def pT (win : List V) (fin : Bool) : Par := { par0 with fx := mkFx (fxT win fin), sg := sgT, sd := 19 }
noncomputable def turnH : List MO := [rdO (.nm 2) (.off 3 0), crO isnV (.nm 5)]
noncomputable def turnE (win : List V) (fin : Bool) : Option (Out × St) := ev (pT win fin) 200 40 default (.c (.val (.ref 337)) [.loc 1] none) ⟨[], turnH⟩
/-- a run: the shape, what is known behind it, and whether that is the end -/
structure Run where
  s : Shp
  nx : List V
  fin : Bool
noncomputable def Run.win (r : Run) : List V := r.s.win ++ r.nx
noncomputable def ways : List Nat := [8, 7, 6, 5, 4, 3, 0]
noncomputable def ways' : List Nat := [8, 7, 5, 4, 3, 0]
noncomputable def plain3 : List Shp := ways.map (shpK "KA") ++ (ways'.map (shpK "KB") ++ ways'.map (shpK "KC"))
noncomputable def nxW : List V := [tk "word" (.nm 8)]
noncomputable def runs : List Run := (plain3.flatMap fun s => [⟨s, [], true⟩, ⟨s, nxW, false⟩, ⟨wrap s, [], false⟩]) ++ [⟨notS (shpK "KA" 0), [], true⟩, ⟨notS (wrap (shpK "KA" 0)), [], false⟩, ⟨shpX, [], true⟩]
end Mine

end
section -- R4
namespace Mine
open PySem
/-! ## the run of either: parts by their lengths, and what joins them -/
noncomputable abbrev Plan := List (Bool × Nat)
structure Row where
  pos : Nat
  len : Nat
  i : Nat
  conn : Bool
noncomputable def rowsOf : Nat → Nat → Plan → List Row
  | _, _, [] => []
  | k, i, (c, n) :: r => ⟨k, n, i, c⟩ :: rowsOf (k + n + 1) (i + 1) r
noncomputable def lenOf : Plan → Nat
  | [] => 0
  | [(_, n)] => n
  | (_, n) :: r => n + 1 + lenOf r
noncomputable def findRow (k : Nat) : List Row → Option Row
  | [] => none
  | r :: q => match Nat.beq r.pos k with | true => some r | false => findRow k q
noncomputable def lastN : Nat → V
  | 0 => .none
  | i + 1 => .nm (10 + i)
noncomputable def intNat : V → Option Nat
  | .int (.ofNat k) => some k
  | _ => none
noncomputable def atOf : List MO → Option Nat
  | m :: _ => (match m with
    | .obj _ _ vs => (match vs with
      | _ :: v :: _ => intNat v
      | _ => none)
    | _ => none)
  | _ => none
noncomputable def eH (k i : Nat) : List MO := [rdO (.nm 2) (.int (.ofNat k)), crO (.nm 50) (lastN i)]
noncomputable def sgE (pl : Plan) (a : Addr) (args : List V) (h : List MO) : Option (V × List MO) := match Nat.beq a 337 && vsB [.loc 1] args with
  | false => none
  | true => (match atOf h with
    | none => none
    | some k => (match findRow k (rowsOf 0 0 pl) with
      | none => none
      | some r => (match mosB (eH r.pos r.i) h with
        | true => some (.nm (100 + r.i), eH (r.pos + r.len) (r.i + 1))
        | false => none)))
noncomputable def connW (c : Bool) : Str := match c with | true => "OR" | false => "AND"
noncomputable def subE (pl : Plan) (a b : V) : Option V := match isNm 2 a, intNat b with
  | true, some k => (match findRow (k + 1) (rowsOf 0 0 pl) with
    | some r => (match Nat.blt 0 r.i with | true => some (tW (connW r.conn)) | false => none)
    | none => none)
  | _, _ => none
noncomputable def lenE (pl : Plan) (a : V) : Option V := match isNm 2 a with
  | true => some (.int (.ofNat (lenOf pl)))
  | false => none
noncomputable def pE (pl : Plan) : Par := { par0 with fx := mkFx { sub := subE pl, len := lenE pl }, sg := sgE pl, sd := 39 }
noncomputable def readH (pl : Plan) : List MO := [rdO (.nm 2) (.int (.ofNat (lenOf pl)))]
noncomputable def readE (pl : Plan) : Option (Out × St) := ev (pE pl) 120 60 default (.c (.val (.ref 408)) [.loc 0, .nm 50] none) ⟨[], [rdO (.nm 2) (.int 0)]⟩
noncomputable def joinO (e : Option V) (b : V) : V := match e with
  | none => b
  | some x => .tup [.str "or", x, b]
noncomputable def condG : Option V → V → Nat → Plan → V
  | e, b, _, [] => joinO e b
  | e, b, i, (c, _) :: r => (match c with
    | true => condG (some (joinO e b)) (.nm (100 + i)) (i + 1) r
    | false => condG e (.tup [.str "and", b, .nm (100 + i)]) (i + 1) r)
noncomputable def condE : Plan → V
  | [] => .none
  | _ :: r => condG none (.nm 100) 1 r
noncomputable def readOk (pl : Plan) : Bool := outOk (readE pl) (condE pl) (readH pl)
/-- all the ways to bracket n parts -/
noncomputable def bitsL : Nat → List Plan
  | 0 => [[]]
  | n + 1 => (bitsL n).flatMap fun r => [(false, 3) :: r, (false, 5) :: r]
noncomputable def plans4 : List Plan := (bitsL 1 ++ (bitsL 2 ++ (bitsL 3 ++ bitsL 4))).flatMap fun q => [q, q ++ [(true, 3)], q ++ [(false, 6)]]
noncomputable def plans : List Plan := [(false, 4)] :: plans4
end Mine

end
section -- R5
namespace Mine
open PySem
/-! ## key_row and and_parts -/
noncomputable def keysN (a : V) : V := .tup [.tup [.bool true, .str "KA"], .tup [a, .str "KB"], .tup [.bool false, .str "KC"]]
noncomputable def rowK (k : Nat) : Nat → V
  | 8 => .none
  | 7 => .none
  | 6 => .none
  | 5 => .tup [.int (.ofNat k), refV (kn k), refV "KB"]
  | 4 => .tup [.int (.ofNat k), refV (kn k), refV "N"]
  | 3 => .tup [.int (.ofNat k), refV (kn k), numV (.nm 1)]
  | _ => .tup [.int (.ofNat k), refV (kn k), numV (.nm 1)]
noncomputable def allKW : List (Nat × Nat) := [0, 1, 2].flatMap fun k => [0, 1, 2, 3, 4, 5, 6, 7, 8].map fun w => (k, w)
noncomputable def kwS (q : Nat × Nat) : Shp := shpK (kn q.1) q.2
noncomputable def rowOk1 (t r : V) : Bool := outOk (ev par0 60 20 default (.c (.val (.ref 40)) [keysN (.nm 6), t] none) ⟨[], []⟩) r []
noncomputable def rowOk (q : Nat × Nat) : Bool := rowOk1 (kwS q).tree (rowK q.1 q.2)
noncomputable def notT : V := (notS (shpK "KA" 0)).tree
noncomputable def orT : V := .tup [.str "or", .nm 7, .nm 8]
noncomputable def leafOk (t : V) : Bool := outOk (ev par0 60 20 default (.c (.val (.ref 28)) [t] none) ⟨[], []⟩) (.lst [t]) []
noncomputable def nmK : V → Option Nat
  | .nm k => some k
  | _ => none
noncomputable def sgA (a : Addr) (args : List V) (h : List MO) : Option (V × List MO) := match Nat.beq a 28, args with
  | true, [x] => (match nmK x with
    | some k => (match Nat.ble 100 k with | true => some (.lst [.nm k], h) | false => none)
    | none => none)
  | _, _ => none
noncomputable def pA : Par := { par0 with sg := sgA, sd := 19 }
noncomputable def andV : Nat → V
  | 0 => .nm 100
  | n + 1 => .tup [.str "and", andV n, .nm (100 + (n + 1))]
noncomputable def nmL (b n : Nat) : List V := (List.range n).map fun i => .nm (b + i)
noncomputable def partsOk (n : Nat) : Bool := outOk (ev pA 80 40 default (.c (.val (.ref 28)) [andV n] none) ⟨[], []⟩) (.lst (nmL 100 (n + 1))) []
/-! ## key_rows against _law_due -/
noncomputable abbrev Rows := List (Option Nat)
noncomputable def hasN : Rows → Bool
  | [] => false
  | none :: _ => true
  | some _ :: r => hasN r
noncomputable def rowV (ab : Bool) (i : Nat) : Option Nat → V
  | none => .none
  | some p => .tup [match ab with | true => .nm (300 + i) | false => .int (.ofNat p), .nm (200 + 2 * i), .nm (201 + 2 * i)]
noncomputable def rowsV (ab : Bool) : Nat → Rows → List V
  | _, [] => []
  | i, r :: q => rowV ab i r :: rowsV ab (i + 1) q
noncomputable def sgK (rs : List V) (a : Addr) (args : List V) (h : List MO) : Option (V × List MO) := match Nat.beq a 28, args with
  | true, [x] => (match isNm 9 x with | true => some (.lst (nmL 100 rs.length), h) | false => none)
  | false, [k, x] => (match Nat.beq a 40 && vB (keysN (.nm 6)) k with
    | true => (match nmK x with
      | some j => (match Nat.ble 100 j with
        | true => (match rs[j - 100]? with | some r => some (r, h) | none => none)
        | false => none)
      | none => none)
    | false => none)
  | _, _ => none
noncomputable def pK (rs : List V) : Par := { par0 with sg := sgK rs, sd := 49 }
noncomputable def placeIs (p : Nat) : Option Nat → Bool
  | some q => Nat.beq p q
  | none => false
/-- the row at a place -/
noncomputable def pick (p : Nat) : Nat → Rows → List V
  | _, [] => []
  | i, r :: q => match placeIs p r with
    | true => rowV false i r :: pick p (i + 1) q
    | false => pick p (i + 1) q
noncomputable def countP (p : Nat) : Rows → Nat
  | [] => 0
  | r :: q => match placeIs p r with | true => countP p q + 1 | false => countP p q
/-- what is due -/
noncomputable def dueV (rs : Rows) : V := match hasN rs with
  | true => .none
  | false => (match (List.range rs.length).all fun p => Nat.beq (countP p rs) 1 with
    | true => .lst ((List.range rs.length).flatMap fun p => pick p 0 rs)
    | false => .none)
noncomputable def krOk (rs : Rows) : Bool := outOk (ev (pK (rowsV (hasN rs) 0 rs)) 80 60 default (.c (.val (.ref 45)) [keysN (.nm 6), .nm 9] none) ⟨[], []⟩) (dueV rs) []
noncomputable def ldOk (rs : Rows) : Bool := outOk (ev par0 80 60 default (.c (.val (.ref 656)) [.lst (rowsV (hasN rs) 0 rs)] none) ⟨[], []⟩) (dueV rs) []
noncomputable def full : Nat → List Rows
  | 0 => [[]]
  | n + 1 => (full n).flatMap fun r => [some 0 :: r, some 1 :: r, some 2 :: r]
noncomputable def halves : Nat → List Rows
  | 0 => [[]]
  | n + 1 => (halves n).flatMap fun r => [none :: r, some 0 :: r]
noncomputable def casesD : List Rows := (full 1 ++ (full 2 ++ (full 3 ++ full 4))) ++ (halves 1 ++ (halves 2 ++ (halves 3 ++ halves 4))).filter hasN
noncomputable def casesK : List Rows := casesD ++ (halves 4).map (· ++ [none])
/-! ## _law_part -/
noncomputable def absJ : List MO → Option Nat
  | m :: _ => (match m with
    | .abs 0 d => (match d with | [v] => intNat v | _ => none)
    | _ => none)
  | [] => none
noncomputable def wordOfT : V → V
  | .obj _ _ [_, b, _, _] => b
  | _ => .none
noncomputable def partV (q : Nat × Nat) : V := .tup [.lst ((kwS q).win.map wordOfT), (kwS q).tree, rowK q.1 q.2]
noncomputable def sgP (j0 : Nat) (q : Nat × Nat) (a : Addr) (args : List V) (h : List MO) : Option (V × List MO) := match Nat.beq a 630, args with
  | true, [x, m] => (match absJ h, intNat m with
    | some j, some m => (match vB (.loc 0) x && mosB [.abs 0 [.int (.ofNat j)]] h with
      | true => (match Nat.beq j j0 && Nat.beq m 3 with
        | true => some (.int (.ofNat q.1), [.abs 0 [.int (.ofNat (j + 1))]])
        | false => (match Nat.beq j (j0 + 1) && Nat.beq m 9 with
          | true => some (.int (.ofNat q.2), [.abs 0 [.int (.ofNat (j + 1))]])
          | false => (match Nat.beq j (j0 + 2) && Nat.beq m 30 with
            | true => some (.nm 1, [.abs 0 [.int (.ofNat (j + 1))]])
            | false => none)))
      | false => none)
    | _, _ => none)
  | _, _ => none
noncomputable def strP (a : V) : Option V := match isNm 1 a with
  | true => some (.nm 0)
  | false => none
noncomputable def pP (j0 : Nat) (q : Nat × Nat) : Par := { par0 with fx := mkFx { str := strP }, sg := sgP j0 q, sd := 19 }
noncomputable def partOk (j0 : Nat) (q : Nat × Nat) : Bool := outOk (ev (pP j0 q) 80 40 default (.c (.val (.ref 651)) [.loc 0] none) ⟨[], [.abs 0 [.int (.ofNat j0)]]⟩) (partV q) [.abs 0 [.int (.ofNat (j0 + 3))]]
/-! ## law, from its second statement on -/
noncomputable def lawF : FR := fdef 69
noncomputable def lawB : List Stmt := lawF.body.drop 1
structure Scn where
  n : Nat
  bits : List Bool
  way : Nat
  asc : Bool
noncomputable def getB (l : List Bool) (i : Nat) : Bool := match l[i]? with | some b => b | none => false
noncomputable def wrapW (b : Bool) (l : List V) : List V := match b with
  | true => .str "(" :: (l ++ [.str ")"])
  | false => l
noncomputable def partW (i : Nat) : List V := [.nm (10 + 3 * i), .nm (11 + 3 * i), .nm (12 + 3 * i)]
noncomputable def tailW : Nat → List V
  | 1 => [.str "OR", .str "KA", .str "=", .str "1"]
  | 2 => [.str "AND", .str "NOT", .str "(", .str "KA", .str "=", .str "1", .str ")"]
  | _ => []
noncomputable def wC (way : Nat) : Nat → List Bool → List V
  | _, [] => tailW way
  | i, b :: r => .str "AND" :: (wrapW b (partW i) ++ wC way (i + 1) r)
noncomputable def wR (way : Nat) : Nat → List Bool → List V
  | _, [] => []
  | i, b :: r => wrapW b (partW i) ++ wC way (i + 1) r
noncomputable def wordsW (c : Scn) : List V := wR c.way 0 c.bits
noncomputable def oddW : Nat → Bool
  | 1 => true
  | 2 => true
  | _ => false
noncomputable def ascI (b : Bool) : Int := match b with | true => 1 | false => 0
noncomputable def keysB (b : Bool) : V := keysN (.bool b)
noncomputable def put0 (h : List MO) (j : Nat) : List MO := h.set 0 (.abs 0 [.int (.ofNat j)])
/-- a take of a digit -/
noncomputable def takeW (c : Scn) (j m : Nat) : Option V := match Nat.beq j 0 && Nat.beq m 2 with
  | true => some (.int (ascI c.asc))
  | false => (match Nat.beq j 1 && Nat.beq m 4 with
    | true => some (.int (.ofNat (c.n - 1)))
    | false => (match Nat.beq j (2 + 4 * c.n) && Nat.beq m 7 with
      | true => some (.nm 34)
      | false => (match Nat.blt j (2 + 4 * c.n) && Nat.beq ((j + 3) % 4) 0 && Nat.beq m 4 with
        | true => some (.nm (30 + (j - 5) / 4))
        | false => none)))
noncomputable def sgTake (c : Scn) (args : List V) (h : List MO) : Option (V × List MO) := match args with
  | [x, m] => (match absJ h, intNat m, vB (.loc 0) x with
    | some j, some m, true => (match takeW c j m with
      | some v => some (v, put0 h (j + 1))
      | none => none)
    | _, _, _ => none)
  | _ => none
noncomputable def sgPart (c : Scn) (args : List V) (h : List MO) : Option (V × List MO) := match absJ h, vsB [.loc 0] args with
  | some j, true => (match Nat.ble 2 j && Nat.blt j (2 + 4 * c.n) && Nat.beq (j % 4) 2 with
    | true => some (.tup [.lst (partW ((j - 2) / 4)), .nm (100 + (j - 2) / 4), .nm (200 + (j - 2) / 4)], put0 h (j + 3))
    | false => none)
  | _, _ => none
noncomputable def asLoc1 : List V → Option Nat
  | [v] => locOf v
  | _ => none
noncomputable def sgDue (c : Scn) (args : List V) (h : List MO) : Option (V × List MO) := match asLoc1 args with
  | some q => (match h[q]? with
    | some m => (match moB (.lst (nmL 200 c.n)) m with
      | true => some (.nm 300, h.set q .dead)
      | false => none)
    | none => none)
  | none => none
noncomputable def sgW (c : Scn) (a : Addr) (args : List V) (h : List MO) : Option (V × List MO) := match Nat.beq a 630 with
  | true => sgTake c args h
  | false => (match Nat.beq a 651 with
    | true => sgPart c args h
    | false => (match Nat.beq a 656 && !oddW c.way with
      | true => sgDue c args h
      | false => (match Nat.beq a 637 && vsB [.lst (wordsW c)] args with
        | true => some (.nm 9, h)
        | false => (match Nat.beq a 28 && vsB [.nm 9] args && !oddW c.way with
          | true => some (.lst (nmL 100 c.n), h)
          | false => (match Nat.beq a 45 && vsB [keysB c.asc, .nm 9] args with
            | true => some (match oddW c.way with | true => .none | false => .nm 300, h)
            | false => (match Nat.beq a 663 && vsB [keysB c.asc] args with
              | true => some (.bool true, h)
              | false => none))))))
noncomputable def bitK (a : V) : Option Nat := match nmK a with
  | some k => (match Nat.ble 30 k && Nat.blt k 34 with | true => some (k - 30) | false => none)
  | none => none
noncomputable def eqW (c : Scn) (a b : V) : Option V := match bitK a, intNat b with
  | some i, some 1 => some (.bool (getB c.bits i))
  | none, some j => (match isNm 34 a && Nat.blt j 3 with
    | true => some (.bool (Nat.beq c.way j))
    | false => none)
  | _, _ => none
noncomputable def gtW (c : Scn) (a b : V) : Option V := match isNm 34 a, intNat b with
  | true, some 2 => some (.bool (Nat.blt 2 c.way))
  | _, _ => none
noncomputable def pW (c : Scn) : Par := { par0 with fx := mkFx { eq := eqW c, gt := gtW c }, sg := sgW c, sd := 84 }
noncomputable def lawL : List (Str × V) := [("script", .any), ("pool", .loc 0)]
noncomputable def lawE (c : Scn) : Option (Out × St) := ev (pW c) 100 95 lawF.sc (.s lawB) ⟨lawL, [.abs 0 [.int 0]]⟩
noncomputable def retTrue (o : Option (Out × St)) : Bool := match o with
  | some (.f (.ret v), _) => (match v with | .bool true => true | _ => false)
  | _ => false
noncomputable def lawOk (c : Scn) : Bool := retTrue (lawE c)
noncomputable def bitsB : Nat → List (List Bool)
  | 0 => [[]]
  | n + 1 => (bitsB n).flatMap fun r => [false :: r, true :: r]
noncomputable def scns : List Scn := [1, 2, 3, 4].flatMap fun n => (bitsB n).flatMap fun b => [0, 1, 2, 3].flatMap fun w => [⟨n, b, w, false⟩, ⟨n, b, w, true⟩]
end Mine

end
section -- S1
namespace Mine
open PySem PySem.W PySem.Calls PyProof.Rows

noncomputable abbrev noE : Value → Shared → Prop := fun _ _ => False
structure Frm (G : Glb) (A : Around) (sc : Scope) (fenv env : Env) (h₀ : Heap) (L : Addr) (d : Nat) : Prop where
  below : ∃ A₀ base outer, Below A₀ base outer h₀ ∧ A.frames = some (fenv :: outer)
  fl : fenv.frame = some L
  fk : fenv.scope.kind = .function
  kin : G.R.K.In h₀
  top : Top G.p G.loose G.mean G.mg G.mb h₀
  hand : A.handled = none
  depth : A.depth + 2 * d + 10 ≤ 900
  units : A.units + 8 * d + 200 ≤ 9900
  ek : env.scope.kind = .function
  eg : env.globals = mainGlobals
  eb : env.builtins = builtinsNs
  glo : ∀ x, sc.names.lookup x = some .globalImplicit → env.kindOf x = some .globalImplicit
  lcl : ∀ x, sc.names.lookup x = some .local → env.kindOf x = some .local
  clo : ∀ x, (sc.names.lookup x = some .cell ∨ sc.names.lookup x = some .free) → env.kindOf x = some .cell ∨ env.kindOf x = some .free
  cls : ∀ x, (env.kindOf x = some .cell ∨ env.kindOf x = some .free) → ∃ c, env.cells.lookup x = some c
  dbg : ∀ x k, sc.names.lookup x = some k → (x == ("__debug__" : Str)) = false
  fe : lamSc sc = true → ∃ e ∈ G.lamT, ∃ cs a cl, env = envX e.2.2 cs L a (.ref e.1) cl
structure ParOk (G : Glb) (p : Par) : Prop where
  ok : RcOk G.R
  kp : ∀ a, p.ck a = true → keepIn G.R.K (.ref a) = true
  gt : ∀ x d, p.gt x = some d → (∃ v, nsIn G.R.K mainGlobals x = some (some v) ∧ ∀ ρ pu, VR G.R ρ pu d v) ∨
    (nsIn G.R.K mainGlobals x = some none ∧ x ≠ "__name__" ∧ ∃ v, bootBuiltins x = some v ∧ ∀ ρ pu, VR G.R ρ pu d v)

section
variable (R : Rc) (Z : ZP) (env : Env) (h₀ : Heap) (L : Addr) (fr own : Led) (st : St) (ρ : List Addr) (pu : Led) (s : Shared)
noncomputable def EP (d : V) (Q : Value → Shared → Prop) : Prop :=
  ∀ v ρ' pu' s', Pre ρ ρ' → Sub pu pu' → VR R ρ' pu' d v → Inv R Z env h₀ L fr own st ρ' pu' s'.heap → Same s s' → Q v s'
noncomputable def EPs (ds : List V) (Q : List Value → Shared → Prop) : Prop :=
  ∀ vs ρ' pu' s', Pre ρ ρ' → Sub pu pu' → VRs R ρ' pu' ds vs → Inv R Z env h₀ L fr own st ρ' pu' s'.heap → Same s s' → Q vs s'
noncomputable def BP (b : Bool) (Q : Bool → Shared → Prop) : Prop :=
  ∀ ρ' pu' s', Pre ρ ρ' → Sub pu pu' → Inv R Z env h₀ L fr own st ρ' pu' s'.heap → Same s s' → Q b s'
end
/-- what a reader of expressions (at a depth) is worth -/
noncomputable def SE (G : Glb) (d : Nat) (ih : Ev) : Prop := ∀ sc x st v st', ih sc (.e x) st = some (.v v, st') →
  ∀ A fenv env h₀ L, Frm G A sc fenv env h₀ L d → ∀ {Z : ZP} fr own ρ pu s Q, Inv G.R Z env h₀ L fr own st ρ pu s.heap → EP G.R Z env h₀ L fr own st' ρ pu s v Q → wpAny (model G.prog G.w) A (eval x env) Q noE s
noncomputable def STt (G : Glb) (d : Nat) (ih : Ev) : Prop := ∀ sc x st b st', ih sc (.t x) st = some (.b b, st') →
  ∀ A fenv env h₀ L, Frm G A sc fenv env h₀ L d → ∀ {Z : ZP} fr own ρ pu s Q, Inv G.R Z env h₀ L fr own st ρ pu s.heap → BP G.R Z env h₀ L fr own st' ρ pu s b Q → wpAny (model G.prog G.w) A (isTrue x env (eval x env)) Q noE s

theorem asV_some {o : Option (Out × St)} {v : V} {st : St} (h : asV o = some (v, st)) : o = some (.v v, st) := by
  unfold asV at h
  (first | (revert h; refine mb (fun _ h => ?_) (fun _ h => ?_)) | split at h)
  · obtain ⟨rfl, rfl⟩ := oPi h; rfl
  · (first | exact Mine.ns h | exact Mine.ft h | exact Mine.sn h | exact Mine.tf h | cases h)
theorem asB_some {o : Option (Out × St)} {v : Bool} {st : St} (h : asB o = some (v, st)) : o = some (.b v, st) := by
  unfold asB at h
  (first | (revert h; refine mb (fun _ h => ?_) (fun _ h => ?_)) | split at h)
  · obtain ⟨rfl, rfl⟩ := oPi h; rfl
  · (first | exact Mine.ns h | exact Mine.ft h | exact Mine.sn h | exact Mine.tf h | cases h)
theorem asF_some {o : Option (Out × St)} {v : Fl} {st : St} (h : asF o = some (v, st)) : o = some (.f v, st) := by
  unfold asF at h
  (first | (revert h; refine mb (fun _ h => ?_) (fun _ h => ?_)) | split at h)
  · obtain ⟨rfl, rfl⟩ := oPi h; rfl
  · (first | exact Mine.ns h | exact Mine.ft h | exact Mine.sn h | exact Mine.tf h | cases h)

section
variable {Z : ZP} {G : Glb} {p : Par} {A : Around} {sc : Scope} {fenv env : Env} {h₀ : Heap} {L : Addr} {d : Nat} {fr own : Led} {st st' : St} {ρ : List Addr} {pu : Led} {s : Shared} {ih : Ev}

theorem EP.here {R : Rc} {x : V} {v : Value} {Q : Value → Shared → Prop} {tk : Nat} (h : EP R Z env h₀ L fr own st ρ pu s x Q) (hv : VR R ρ pu x v) (I : Inv R Z env h₀ L fr own st ρ pu s.heap) : Q v { s with toks := tk } :=
  h v ρ pu { s with toks := tk } (Pre.refl _) (Sub.refl _) hv I ⟨s.heap, tk, rfl⟩
theorem BP.here {R : Rc} {b : Bool} {Q : Bool → Shared → Prop} {tk : Nat} (h : BP R Z env h₀ L fr own st ρ pu s b Q) (I : Inv R Z env h₀ L fr own st ρ pu s.heap) : Q b { s with toks := tk } :=
  h ρ pu { s with toks := tk } (Pre.refl _) (Sub.refl _) I ⟨s.heap, tk, rfl⟩
theorem EP.shift {R : Rc} {x : V} {Q : Value → Shared → Prop} {ρ' : List Addr} {pu' : Led} {s' : Shared} (h : EP R Z env h₀ L fr own st ρ pu s x Q) (h1 : Pre ρ ρ') (h2 : Sub pu pu') (hs : Same s s') : EP R Z env h₀ L fr own st ρ' pu' s' x Q :=
  fun v ρ'' pu'' s'' a b c e f => h v ρ'' pu'' s'' (h1.trans a) (h2.trans b) c e (hs.trans f)
theorem BP.shift {R : Rc} {x : Bool} {Q : Bool → Shared → Prop} {ρ' : List Addr} {pu' : Led} {s' : Shared} (h : BP R Z env h₀ L fr own st ρ pu s x Q) (h1 : Pre ρ ρ') (h2 : Sub pu pu') (hs : Same s s') : BP R Z env h₀ L fr own st ρ' pu' s' x Q :=
  fun ρ'' pu'' s'' a b e f => h ρ'' pu'' s'' (h1.trans a) (h2.trans b) e (hs.trans f)

theorem e_const {c : Const} {k : Nat} {pos : Pos} {v : V} {Q : Value → Shared → Prop} (e : constV c = some v) (I : Inv G.R Z env h₀ L fr own st ρ pu s.heap) (hQ : EP G.R Z env h₀ L fr own st ρ pu s v Q) :
    wpAny (model G.prog G.w) A (eval (.Constant c k pos) env) Q noE s := by
  (first | exact Mine.ns c | exact Mine.ft c | exact Mine.sn c | exact Mine.tf c | cases c) <;> (first | exact Mine.ns e | exact Mine.ft e | exact Mine.sn e | exact Mine.tf e | cases e)
  · exact wpAny_Constant_none (hQ.here (tk := s.toks) .none I)
  · exact wpAny_Constant_bool (hQ.here (tk := s.toks) (.bool _) I)
  · exact fun _ _ _ => hQ.here (.int _ _) I
  · exact fun _ _ _ => hQ.here (.str _ _) I

set_option tactic.hygienic true in
theorem e_name (P : ParOk G p) (Fm : Frm G A sc fenv env h₀ L d) {x : Str} {pos : Pos} {v : V} {Q : Value → Shared → Prop} (e : nameV p sc st x = some v) (I : Inv G.R Z env h₀ L fr own st ρ pu s.heap) (hQ : EP G.R Z env h₀ L fr own st ρ pu s v Q) :
    wpAny (model G.prog G.w) A (eval (.Name x pos) env) Q noE s := by
  refine opq fun GG kk => ?_
  have I' := I
  obtain ⟨m, mm, tb, chs, W⟩ := I
  unfold nameV at e
  rw [slook_eq] at e
  (first | (revert e; refine mb (fun _ e => ?_) (fun _ e => ?_)) | split at e)
  · rename_i hk
    have hx := Fm.glo x hk
    have hd := Fm.dbg x _ hk
    rcases P.gt x v e with ⟨val, hn, hv⟩ | ⟨hn, hne, val, hb, hv⟩
    · refine kk ?_
      refine Name_function_global Fm.ek hx (loadGlobal_global (mg := G.mg) ?_ (mg_of Fm.kin Fm.top.g hn) (hQ.here (tk := s.toks) (hv _ _) I')) hd
      rw [Fm.eg]; exact Fm.top.g.keeps W.F.keep
    · refine kk ?_
      refine Name_function_global Fm.ek hx (loadGlobal_builtin (mg := G.mg) (mb := G.mb) ?_ (mg_none_of Fm.kin Fm.top.g hn) ?_ ((Fm.top.builtins x hne).trans hb) (hQ.here (tk := s.toks) (hv _ _) I')) hd
      · rw [Fm.eg]; exact Fm.top.g.keeps W.F.keep
      · rw [Fm.eb]; exact Fm.top.b.keeps W.F.keep
  · rename_i k _ hk
    rw [slook_eq] at e
    have hd := Fm.dbg x _ hk
    rcases W.nm x v e with ⟨hx, val, hv, hr⟩ | ⟨hx, c, o, val, hc, hm, hdat, hr⟩
    · refine kk ?_
      exact wpAny_Name (wpAny_loadName_local Fm.ek hx W.nsAt hv (hQ.here (tk := s.toks) hr I')) hd
    · have hget : s.heap.get? c = some o := by
        refine (W.N (c, o) ?_).1
        refine List.mem_append_right _ ?_
        rcases List.mem_append.mp hm with q | q
        · exact List.mem_append_left _ q
        · exact List.mem_append_right _ (List.mem_append_right _ (List.mem_append_right _ q))
      rcases hx with hx | ⟨hx, hcd⟩
      · refine kk ?_
        exact wpAny_Name (wpAny_loadName_cell Fm.ek hx hc ⟨o, hget, hdat⟩ (hQ.here (tk := s.toks) hr I')) hd
      · refine kk ?_
        exact wpAny_Name (wpAny_loadName_free Fm.ek hx hc ⟨o, hget, hdat⟩ (hQ.here (tk := s.toks) hr I') hcd) hd
  · (first | exact Mine.ns e | exact Mine.ft e | exact Mine.sn e | exact Mine.tf e | cases e)

theorem evs_len : ∀ {xs : List Expr} {st st' : St} {ds : List V}, evs ih sc xs st = some (ds, st') → ds.length = xs.length
  | [], _, _, _, e => by (first | exact Mine.ns e | exact Mine.ft e | exact Mine.sn e | exact Mine.tf e | cases e); rfl
  | x :: r, st, st', ds, e => by
    unfold evs at e
    revert e; refine zPVSt fun _ _ _ e => ?_
    revert e; refine zPLVSt fun _ _ _ e => ?_
    rename_i h2; obtain ⟨rfl, rfl⟩ := oPi e; simp [evs_len h2]
theorem VRs.length {R : Rc} {ds : List V} {vs : List Value} (h : VRs R ρ pu ds vs) : ds.length = vs.length := by
  induction ds generalizing vs with
  | nil => obtain rfl := h.nil_inv; clear h; rfl
  | cons d ds ih => cases h with | cons _ r => simp [ih r]
theorem VRs.append {R : Rc} {ds es : List V} {vs ws : List Value} (h : VRs R ρ pu ds vs) (k : VRs R ρ pu es ws) : VRs R ρ pu (ds ++ es) (vs ++ ws) := by
  induction ds generalizing vs with
  | nil => obtain rfl := h.nil_inv; clear h; exact k
  | cons d ds ih => cases h with | cons h r => exact .cons h (ih r)
theorem starEach_plain {x : Expr} {rest : List Expr} (h : ∀ y q, x ≠ .Starred y q) : starEach (x :: rest) env = (false, eval x env) :: starEach rest env := by
  (first | exact Mine.ns x | exact Mine.ft x | exact Mine.sn x | exact Mine.tf x | cases x) <;> first | rfl | exact absurd rfl (h _ _)
/-- no reader takes a starred expression -/
noncomputable def NoStar (ih : Ev) : Prop := ∀ sc y q st, ih sc (.e (.Starred y q)) st = none
set_option tactic.hygienic true in
theorem evs_ok (S : SE G d ih) (NS : NoStar ih) (Fm : Frm G A sc fenv env h₀ L d) {pos : Pos} : ∀ {xs : List Expr} {st st' : St} {ds : List V} {ρ : List Addr} {pu : Led} {s : Shared} {Q : List Value → Shared → Prop},
    evs ih sc xs st = some (ds, st') → Inv G.R Z env h₀ L fr own st ρ pu s.heap → EPs G.R Z env h₀ L fr own st' ρ pu s ds Q → wpAny (model G.prog G.w) A (spliced (backTo pos (starEach xs env))) Q noE s
  | [], st, st', ds, ρ, pu, s, Q, e, I, hQ => by
    (first | exact Mine.ns e | exact Mine.ft e | exact Mine.sn e | exact Mine.tf e | cases e)
    exact spliced_nil (hQ [] ρ pu s (Pre.refl _) (Sub.refl _) .nil I (Same.refl s))
  | x :: r, st, st', ds, ρ, pu, s, Q, e, I, hQ => by
    unfold evs at e
    (first | (revert e; refine mb (fun _ e => ?_) (fun _ e => ?_)) | split at e)
    · rename_i v st₁ h1
      have h1' := asV_some h1
      revert e; refine zPLVSt fun _ _ _ e => ?_
      rename_i vs st₂ h2
      obtain ⟨rfl, rfl⟩ := oPi e
      have hx : ∀ y q, x ≠ .Starred y q := by
        rintro y q rfl
        rw [NS] at h1'; (first | exact Mine.ns h1' | exact Mine.ft h1' | exact Mine.sn h1' | exact Mine.tf h1' | cases h1')
      rw [starEach_plain hx]
      show wpAny _ A (spliced ((false, eval x env) :: backTo pos (starEach r env))) Q noE s
      refine spliced_cons (S _ _ _ _ _ h1' A fenv env h₀ L Fm fr own ρ pu s _ I ?_)
      intro v' ρ' pu' s' a b c I' sm
      refine evs_ok S NS Fm h2 I' ?_
      intro vs' ρ'' pu'' s'' a' b' c' I'' sm'
      exact hQ (v' :: vs') ρ'' pu'' s'' (a.trans a') (b.trans b') (.cons (c.mono a' b') c') I'' (sm.trans sm')
    · (first | exact Mine.ns e | exact Mine.ft e | exact Mine.sn e | exact Mine.tf e | cases e)

theorem e_tuple (P : ParOk G p) (S : SE G d ih) (NS : NoStar ih) (Fm : Frm G A sc fenv env h₀ L d) {es : List Expr} {k : Nat} {pos : Pos} {ds : List V} {Q : Value → Shared → Prop} (hlen : es.length ≤ 1000)
    (e : evs ih sc es st = some (ds, st')) (I : Inv G.R Z env h₀ L fr own st ρ pu s.heap) (hQ : EP G.R Z env h₀ L fr own st' ρ pu s (.tup ds) Q) : wpAny (model G.prog G.w) A (eval (.Tuple es k pos) env) Q noE s := by
  refine Tuple_ (evs_ok S NS Fm e I ?_)
  intro vs ρ' pu' s' a b c ⟨m, mm, tb, chs, W⟩ sm
  have hl : vs.length ≤ 1000 := by rw [← VRs.length c, evs_len e]; exact hlen
  refine newTuple_N W.F W.N (fun h' F' N' => ?_) (by rw [sizeLine_eq]; lia)
  have fs : s'.heap.objs.size ∉ (LED fr own tb chs pu').map (·.1) := fresh_lt (News.lt W.N)
  have W' := W.pure P.ok F' N' fs
  have sub : Sub pu' ((s'.heap.objs.size, ({ cls := .type "tuple", data := .seq vs.toArray } : Obj)) :: pu') := fun p hp => List.mem_cons_of_mem _ hp
  exact hQ _ ρ' _ _ a (b.trans sub) (.tup (n := 0) (List.mem_cons_self ..) (c.mono (Pre.refl _) sub)) ⟨m, mm, tb, chs, W'⟩ (sm.trans ⟨_, s'.toks, rfl⟩)
theorem e_list (P : ParOk G p) (S : SE G d ih) (NS : NoStar ih) (Fm : Frm G A sc fenv env h₀ L d) {es : List Expr} {pos : Pos} {ds : List V} {Q : Value → Shared → Prop} (hlen : es.length ≤ 1001)
    (e : evs ih sc es st = some (ds, st')) (I : Inv G.R Z env h₀ L fr own st ρ pu s.heap) (hQ : EP G.R Z env h₀ L fr own st' ρ pu s (.lst ds) Q) : wpAny (model G.prog G.w) A (eval (.List es pos) env) Q noE s := by
  refine List_ (evs_ok S NS Fm e I ?_)
  intro vs ρ' pu' s' a b c ⟨m, mm, tb, chs, W⟩ sm
  have hl : vs.length ≤ 1001 := by rw [← VRs.length c, evs_len e]; exact hlen
  refine newList_N W.F W.N (fun h' F' N' => ?_) (by rw [sizeLine_eq]; lia)
  have fs : s'.heap.objs.size ∉ (LED fr own tb chs pu').map (·.1) := fresh_lt (News.lt W.N)
  have W' := W.pure P.ok F' N' fs
  have sub : Sub pu' ((s'.heap.objs.size, ({ cls := .type "list", data := .seq vs.toArray } : Obj)) :: pu') := fun p hp => List.mem_cons_of_mem _ hp
  exact hQ _ ρ' _ _ a (b.trans sub) (.lst (n := 0) (List.mem_cons_self ..) (c.mono (Pre.refl _) sub)) ⟨m, mm, tb, chs, W'⟩ (sm.trans ⟨_, s'.toks, rfl⟩)
/-- the empty display: an object that may be changed -/
theorem e_nil (P : ParOk G p) {pos : Pos} {Q : Value → Shared → Prop} (I : Inv G.R Z env h₀ L fr own st ρ pu s.heap) (hlen : ρ.length = st.h.length)
    (hQ : EP G.R Z env h₀ L fr own { st with h := st.h ++ [.lst []] } ρ pu s (.loc st.h.length) Q) : wpAny (model G.prog G.w) A (eval (.List [] pos) env) Q noE s := by
  refine List_ (spliced_nil ?_)
  obtain ⟨m, mm, tb, chs, W⟩ := I
  refine newList_N W.F W.N (fun h' F' N' => ?_) (by rw [sizeLine_eq]; simp)
  have fs : s.heap.objs.size ∉ (LED fr own tb chs pu).map (·.1) := fresh_lt (News.lt W.N)
  have W' := W.snoc P.ok (c := [(s.heap.objs.size, listOf ([] : List Value).toArray 0)]) (mo := .lst []) F' N' (by simp) (by intro q hq; rw [List.mem_singleton.mp hq]; exact fs) (.lst .nil)
  refine hQ _ _ pu _ (Pre.snoc ρ _) (Sub.refl _) (.loc ?_) ⟨m, mm, tb, _, W'⟩ ⟨_, s.toks, rfl⟩
  rw [← hlen]; simp

theorem e_binop (S : SE G d ih) (Fm : Frm G A sc fenv env h₀ L d) {l r : Expr} {op : Operator} {pos : Pos} {a b v : V} {st₁ : St} {Q : Value → Shared → Prop}
    (hb : ∀ ρ' pu' (s' : Shared) x y, Pre ρ ρ' → Sub pu pu' → VR G.R ρ' pu' a x → VR G.R ρ' pu' b y → Inv G.R Z env h₀ L fr own st' ρ' pu' s'.heap → EP G.R Z env h₀ L fr own st' ρ' pu' s' v Q → wpAny (model G.prog G.w) A (binaryOp op x y) Q noE s')
    (h1 : ih sc (.e l) st = some (.v a, st₁)) (h2 : ih sc (.e r) st₁ = some (.v b, st')) (I : Inv G.R Z env h₀ L fr own st ρ pu s.heap) (hQ : EP G.R Z env h₀ L fr own st' ρ pu s v Q) :
    wpAny (model G.prog G.w) A (eval (.BinOp l op r pos) env) Q noE s := by
  refine wpAny_BinOp (S _ _ _ _ _ h1 A fenv env h₀ L Fm fr own ρ pu s _ I ?_)
  intro x ρ' pu' s' p1 q1 vr I' sm
  refine S _ _ _ _ _ h2 A fenv env h₀ L Fm fr own ρ' pu' s' _ I' ?_
  intro y ρ'' pu'' s'' p2 q2 vr2 I'' sm'
  exact hb ρ'' pu'' s'' x y (p1.trans p2) (q1.trans q2) (vr.mono p2 q2) vr2 I'' (hQ.shift (p1.trans p2) (q1.trans q2) (sm.trans sm'))
theorem e_ifexp (S : SE G d ih) (T : STt G d ih) (Fm : Frm G A sc fenv env h₀ L d) {t b o : Expr} {pos : Pos} {v : V} {c : Bool} {st₁ : St} {Q : Value → Shared → Prop}
    (h1 : ih sc (.t t) st = some (.b c, st₁)) (h2 : ih sc (.e (if c then b else o)) st₁ = some (.v v, st')) (I : Inv G.R Z env h₀ L fr own st ρ pu s.heap) (hQ : EP G.R Z env h₀ L fr own st' ρ pu s v Q) :
    wpAny (model G.prog G.w) A (eval (.IfExp t b o pos) env) Q noE s := by
  refine wpAny_IfExp (T _ _ _ _ _ h1 A fenv env h₀ L Fm fr own ρ pu s _ I ?_)
  intro ρ' pu' s' p1 q1 I' sm
  have := S _ _ _ _ _ h2 A fenv env h₀ L Fm fr own ρ' pu' s' Q I' (hQ.shift p1 q1 sm)
  (first | exact Mine.ns c | exact Mine.ft c | exact Mine.sn c | exact Mine.tf c | cases c) <;> exact this
end
end Mine

end
section -- S2
namespace Mine
open PySem PySem.W PySem.Calls PyProof.Rows

/-- what a comparison is worth -/
noncomputable def CmpOk (G : Glb) (p : Par) : Prop := ∀ (h : List MO) (op : CmpOp) (a b : V) (r : Bool), cmpV p h op a b = some r →
  ∀ A sc fenv env h₀ L d, Frm G A sc fenv env h₀ L d → ∀ {Z : ZP} fr own l ρ pu s x y Q, Inv G.R Z env h₀ L fr own ⟨l, h⟩ ρ pu s.heap → VR G.R ρ pu a x → VR G.R ρ pu b y →
    EP G.R Z env h₀ L fr own ⟨l, h⟩ ρ pu s (.bool r) Q → wpAny (model G.prog G.w) A (compareOp op x y) Q noE s
noncomputable def AttOk (G : Glb) (p : Par) : Prop := ∀ (h : List MO) (o : V) (a : Str) (r : V), attrV p h o a = some r →
  ∀ A sc fenv env h₀ L d, Frm G A sc fenv env h₀ L d → ∀ {Z : ZP} fr own l ρ pu s x Q, Inv G.R Z env h₀ L fr own ⟨l, h⟩ ρ pu s.heap → VR G.R ρ pu o x →
    EP G.R Z env h₀ L fr own ⟨l, h⟩ ρ pu s r Q → wpAny (model G.prog G.w) A (getAttr x a true) Q noE s

section
variable {Z : ZP} {G : Glb} {p : Par} {A : Around} {sc : Scope} {fenv env : Env} {h₀ : Heap} {L : Addr} {d : Nat} {fr own : Led} {st st' : St} {ρ : List Addr} {pu : Led} {s : Shared} {ih : Ev}

theorem tv_inv {h : List MO} {v : V} {b : Bool} (e : tv h v = some b) : v = .bool b := by
  unfold tv at e
  split at e <;> (first | exact Mine.ns e | exact Mine.ft e | exact Mine.sn e | exact Mine.tf e | cases e)
  rfl
theorem boolOp_more {op : BoolOp} {pos : Pos} {m : Sem Value} {ms : List (Sem Value)} {Q : Value → Shared → Prop} (hne : ms ≠ [])
    (h : wpAny (model G.prog G.w) A m (fun v s₁ => wpAny (model G.prog G.w) A (truthy v) (fun t s₂ => bif stops op t then Q v s₂ else wpAny (model G.prog G.w) A (boolOp pos op ms) Q noE s₂) noE s₁) noE s) : wpAny (model G.prog G.w) A (boolOp pos op (m :: ms)) Q noE s := by
  cases ms with
  | nil => exact absurd rfl hne
  | cons m' r =>
    show wpAny _ A (do
      let v ← m
      standAt pos
      let t ← holding [v] (truthy v)
      match op, t with
      | .And, false | .Or, true => pure v
      | _, _ => boolOp pos op (m' :: r)) Q noE s
    refine wpAny_bind (wpAny_mono h (fun v s₁ h₁ => wpAny_bind (wpAny_standAt (wpAny_bind (wpAny_holding (wpAny_mono h₁ (fun t s₂ h₂ => ?_) fun _ _ x => x))))) fun _ _ x => x)
    (first | exact Mine.ns op | exact Mine.ft op | exact Mine.sn op | exact Mine.tf op | cases op) <;> (first | exact Mine.ns t | exact Mine.ft t | exact Mine.sn t | exact Mine.tf t | cases t) <;> first | exact h₂ | exact wpAny_pure h₂
theorem boolV_ok (S : SE G d ih) (Fm : Frm G A sc fenv env h₀ L d) {op : BoolOp} {pos : Pos} (xs : List Expr) : ∀ {st st' : St} {v : V} {ρ : List Addr} {pu : Led} {s : Shared} {Q : Value → Shared → Prop},
    boolV ih sc op xs st = some (v, st') → Inv G.R Z env h₀ L fr own st ρ pu s.heap → EP G.R Z env h₀ L fr own st' ρ pu s v Q → wpAny (model G.prog G.w) A (boolOp pos op (evalEach xs env)) Q noE s := by
  induction xs with
  | nil => intro _ _ _ _ _ _ _ e; exact Mine.ns e
  | cons x r ih' =>
    intro st st' v ρ pu s Q e I hQ
    unfold boolV at e
    revert e; refine zPVSt fun a st₁ h1 e => ?_
    cases r with
    | nil =>
      obtain ⟨rfl, rfl⟩ := oPi e
      exact S _ _ _ _ _ (asV_some h1) A fenv env h₀ L Fm fr own ρ pu s Q I hQ
    | cons y r =>
      have e : (match tv st₁.h a with
        | some b => (match stops op b with
          | true => some (a, st₁)
          | false => boolV ih sc op (y :: r) st₁)
        | Option.none => Option.none) = some (v, st') := e
      revert e; refine zOBool fun b ht e => ?_
      obtain rfl := tv_inv ht
      show wpAny _ A (boolOp pos op (eval x env :: evalEach (y :: r) env)) Q noE s
      refine boolOp_more (fun q => nomatch q) (S _ _ _ _ _ (asV_some h1) A fenv env h₀ L Fm fr own ρ pu s _ I ?_)
      intro x' ρ' pu' s' p1 q1 vr I' sm
      obtain rfl := vr.bool_inv
      refine wpAny_truthy_bool ?_
      cases hs : stops op b with
      | true =>
        rw [hs] at e
        obtain ⟨rfl, rfl⟩ := oPi e
        exact hQ _ ρ' pu' s' p1 q1 vr I' sm
      | false =>
        rw [hs] at e
        exact ih' e I' (hQ.shift p1 q1 sm)
theorem boolT_and (T : STt G d ih) (Fm : Frm G A sc fenv env h₀ L d) : ∀ {xs : List Expr} {st st' : St} {v : Bool} {ρ : List Addr} {pu : Led} {s : Shared} {Q : Bool → Shared → Prop},
    boolT ih sc .And xs st = some (v, st') → Inv G.R Z env h₀ L fr own st ρ pu s.heap → BP G.R Z env h₀ L fr own st' ρ pu s v Q → wpAny (model G.prog G.w) A (allTrue .And xs env) Q noE s
  | [], st, st', v, ρ, pu, s, Q, e, I, hQ => by
    (first | exact Mine.ns e | exact Mine.ft e | exact Mine.sn e | exact Mine.tf e | cases e)
    exact wpAny_allTrue_And_nil (hQ.here (tk := s.toks) I)
  | x :: r, st, st', v, ρ, pu, s, Q, e, I, hQ => by
    unfold boolT at e
    revert e; refine zPBSt fun _ _ _ e => ?_
    rename_i b st₁ h1
    refine wpAny_allTrue_And_cons (T _ _ _ _ _ (asB_some h1) A fenv env h₀ L Fm fr own ρ pu s _ I ?_)
    intro ρ' pu' s' p1 q1 I' sm
    cases b with
    | false => (first | exact Mine.ns e | exact Mine.ft e | exact Mine.sn e | exact Mine.tf e | cases e); exact hQ ρ' pu' s' p1 q1 I' sm
    | true => exact boolT_and T Fm e I' (hQ.shift p1 q1 sm)
theorem boolT_or (T : STt G d ih) (Fm : Frm G A sc fenv env h₀ L d) : ∀ {xs : List Expr} {st st' : St} {v : Bool} {ρ : List Addr} {pu : Led} {s : Shared} {Q : Bool → Shared → Prop},
    boolT ih sc .Or xs st = some (v, st') → Inv G.R Z env h₀ L fr own st ρ pu s.heap → BP G.R Z env h₀ L fr own st' ρ pu s v Q → wpAny (model G.prog G.w) A (allTrue .Or xs env) Q noE s
  | [], st, st', v, ρ, pu, s, Q, e, I, hQ => by
    (first | exact Mine.ns e | exact Mine.ft e | exact Mine.sn e | exact Mine.tf e | cases e)
    exact wpAny_allTrue_Or_nil (hQ.here (tk := s.toks) I)
  | x :: r, st, st', v, ρ, pu, s, Q, e, I, hQ => by
    unfold boolT at e
    revert e; refine zPBSt fun _ _ _ e => ?_
    rename_i b st₁ h1
    refine wpAny_allTrue_Or_cons (T _ _ _ _ _ (asB_some h1) A fenv env h₀ L Fm fr own ρ pu s _ I ?_)
    intro ρ' pu' s' p1 q1 I' sm
    cases b with
    | true => (first | exact Mine.ns e | exact Mine.ft e | exact Mine.sn e | exact Mine.tf e | cases e); exact hQ ρ' pu' s' p1 q1 I' sm
    | false => exact boolT_or T Fm e I' (hQ.shift p1 q1 sm)
theorem boolT_ok (T : STt G d ih) (Fm : Frm G A sc fenv env h₀ L d) {op : BoolOp} {xs : List Expr} {v : Bool} {Q : Bool → Shared → Prop}
    (e : boolT ih sc op xs st = some (v, st')) (I : Inv G.R Z env h₀ L fr own st ρ pu s.heap) (hQ : BP G.R Z env h₀ L fr own st' ρ pu s v Q) : wpAny (model G.prog G.w) A (allTrue op xs env) Q noE s := by
  (first | exact Mine.ns op | exact Mine.ft op | exact Mine.sn op | exact Mine.tf op | cases op)
  · exact boolT_and T Fm e I hQ
  · exact boolT_or T Fm e I hQ

theorem chainV_ok (C : CmpOk G p) (S : SE G d ih) (Fm : Frm G A sc fenv env h₀ L d) {pos : Pos} (ops : List CmpOp) : ∀ {cs : List Expr} {a : V} {x : Value} {st st' : St} {b : Bool} {ρ : List Addr} {pu : Led} {s : Shared} {Q : Value → Shared → Prop},
    chain p ih sc a ops cs st = some (b, st') → VR G.R ρ pu a x → Inv G.R Z env h₀ L fr own st ρ pu s.heap → EP G.R Z env h₀ L fr own st' ρ pu s (.bool b) Q → wpAny (model G.prog G.w) A (compareChain pos x ops (evalEach cs env)) Q noE s := by
  induction ops with
  | nil => intro _ _ _ _ _ _ _ _ _ _ e; exact Mine.ns e
  | cons op ops ih' =>
    intro cs a x st st' b ρ pu s Q e hx I hQ
    cases cs with
    | nil => exact Mine.ns e
    | cons c cs =>
      unfold chain at e
      revert e; refine zPVSt fun y st₁ h1 e => ?_
      revert e; refine zOBool fun r hr e => ?_
      cases ops with
      | nil =>
        cases cs with
        | cons _ _ => exact Mine.ns e
        | nil =>
          obtain ⟨rfl, rfl⟩ := oPi e
          show wpAny _ A (do
            let rv ← holding [x] (eval c env)
            standAt pos
            operate [x, rv] (compareOp op x rv)) Q noE s
          refine wpAny_bind (wpAny_holding (S _ _ _ _ _ (asV_some h1) A fenv env h₀ L Fm fr own ρ pu s _ I ?_))
          intro y' ρ' pu' s' p1 q1 vr I' sm
          refine wpAny_bind (wpAny_standAt (wpAny_operate' ?_))
          exact C _ _ _ _ _ hr A sc fenv env h₀ L d Fm fr own _ ρ' pu' s' x y' Q I' (hx.mono p1 q1) vr (hQ.shift p1 q1 sm)
      | cons op' ops =>
        cases cs with
        | nil => exact Mine.ns e
        | cons c' cs =>
          have e : (match (generalizing := false) r with
            | true => chain p ih sc y (op' :: ops) (c' :: cs) st₁
            | false => some (false, st₁)) = some (b, st') := e
          show wpAny _ A (do
            let rv ← holding [x] (eval c env)
            standAt pos
            let c ← holding [x, rv] (compareOp op x rv)
            release [x, rv] [c]
            if ← holding [c, rv] (truthy c) then compareChain pos rv (op' :: ops) (evalEach (c' :: cs) env) else pure c) Q noE s
          refine wpAny_bind (wpAny_holding (S _ _ _ _ _ (asV_some h1) A fenv env h₀ L Fm fr own ρ pu s _ I ?_))
          intro y' ρ' pu' s' p1 q1 vr I' sm
          refine wpAny_bind (wpAny_standAt (wpAny_bind (wpAny_holding ?_)))
          refine C _ _ _ _ _ hr A sc fenv env h₀ L d Fm fr own _ ρ' pu' s' x y' _ I' (hx.mono p1 q1) vr ?_
          intro w ρ'' pu'' s'' p2 q2 vw I'' sm'
          obtain rfl := vw.bool_inv
          refine wpAny_bind (wpAny_release' (wpAny_bind (wpAny_holding (wpAny_truthy_bool ?_))))
          cases r with
          | true => exact ih' e (vr.mono p2 q2) I'' (hQ.shift (p1.trans p2) (q1.trans q2) (sm.trans sm'))
          | false =>
            obtain ⟨rfl, rfl⟩ := oPi e
            exact wpAny_pure (hQ _ ρ'' pu'' s'' (p1.trans p2) (q1.trans q2) vw I'' (sm.trans sm'))
theorem chainT_ok (C : CmpOk G p) (S : SE G d ih) (Fm : Frm G A sc fenv env h₀ L d) {pos : Pos} (ops : List CmpOp) : ∀ {cs : List Expr} {a : V} {x : Value} {st st' : St} {b : Bool} {ρ : List Addr} {pu : Led} {s : Shared} {Q : Bool → Shared → Prop},
    chain p ih sc a ops cs st = some (b, st') → VR G.R ρ pu a x → Inv G.R Z env h₀ L fr own st ρ pu s.heap → BP G.R Z env h₀ L fr own st' ρ pu s b Q → wpAny (model G.prog G.w) A (testChain pos x ops (evalEach cs env)) Q noE s := by
  induction ops with
  | nil => intro _ _ _ _ _ _ _ _ _ _ e; exact Mine.ns e
  | cons op ops ih' =>
    intro cs a x st st' b ρ pu s Q e hx I hQ
    cases cs with
    | nil => exact Mine.ns e
    | cons c cs =>
      unfold chain at e
      revert e; refine zPVSt fun y st₁ h1 e => ?_
      revert e; refine zOBool fun r hr e => ?_
      cases ops with
      | nil =>
        cases cs with
        | cons _ _ => exact Mine.ns e
        | nil =>
          obtain ⟨rfl, rfl⟩ := oPi e
          show wpAny _ A (do
            let rv ← holding [x] (eval c env)
            standAt pos
            let c ← operate [x, rv] (compareOp op x rv)
            holding [c] (truthy c)) Q noE s
          refine wpAny_bind (wpAny_holding (S _ _ _ _ _ (asV_some h1) A fenv env h₀ L Fm fr own ρ pu s _ I ?_))
          intro y' ρ' pu' s' p1 q1 vr I' sm
          refine wpAny_bind (wpAny_standAt (wpAny_bind (wpAny_operate' ?_)))
          refine C _ _ _ _ _ hr A sc fenv env h₀ L d Fm fr own _ ρ' pu' s' x y' _ I' (hx.mono p1 q1) vr ?_
          intro w ρ'' pu'' s'' p2 q2 vw I'' sm'
          obtain rfl := vw.bool_inv
          exact wpAny_holding (wpAny_truthy_bool (hQ ρ'' pu'' s'' (p1.trans p2) (q1.trans q2) I'' (sm.trans sm')))
      | cons op' ops =>
        cases cs with
        | nil => exact Mine.ns e
        | cons c' cs =>
          have e : (match (generalizing := false) r with
            | true => chain p ih sc y (op' :: ops) (c' :: cs) st₁
            | false => some (false, st₁)) = some (b, st') := e
          show wpAny _ A (do
            let rv ← holding [x] (eval c env)
            standAt pos
            let c ← holding [x, rv] (compareOp op x rv)
            release [x, rv] [c]
            if ← holding [c, rv] (truthy c) then testChain pos rv (op' :: ops) (evalEach (c' :: cs) env) else pure false) Q noE s
          refine wpAny_bind (wpAny_holding (S _ _ _ _ _ (asV_some h1) A fenv env h₀ L Fm fr own ρ pu s _ I ?_))
          intro y' ρ' pu' s' p1 q1 vr I' sm
          refine wpAny_bind (wpAny_standAt (wpAny_bind (wpAny_holding ?_)))
          refine C _ _ _ _ _ hr A sc fenv env h₀ L d Fm fr own _ ρ' pu' s' x y' _ I' (hx.mono p1 q1) vr ?_
          intro w ρ'' pu'' s'' p2 q2 vw I'' sm'
          obtain rfl := vw.bool_inv
          refine wpAny_bind (wpAny_release' (wpAny_bind (wpAny_holding (wpAny_truthy_bool ?_))))
          cases r with
          | true => exact ih' e (vr.mono p2 q2) I'' (hQ.shift (p1.trans p2) (q1.trans q2) (sm.trans sm'))
          | false =>
            obtain ⟨rfl, rfl⟩ := oPi e
            exact wpAny_pure (hQ ρ'' pu'' s'' (p1.trans p2) (q1.trans q2) I'' (sm.trans sm'))
theorem e_compare (C : CmpOk G p) (S : SE G d ih) (Fm : Frm G A sc fenv env h₀ L d) {l : Expr} {ops : List CmpOp} {cs : List Expr} {pos : Pos} {a : V} {b : Bool} {st₁ : St} {Q : Value → Shared → Prop}
    (hm : lastMarks ops cs = false) (h1 : ih sc (.e l) st = some (.v a, st₁)) (h2 : chain p ih sc a ops cs st₁ = some (b, st')) (I : Inv G.R Z env h₀ L fr own st ρ pu s.heap) (hQ : EP G.R Z env h₀ L fr own st' ρ pu s (.bool b) Q) :
    wpAny (model G.prog G.w) A (eval (.Compare l ops cs pos) env) Q noE s := by
  rw [arm_eval_Compare, markedEach_of_false _ _ _ hm]
  refine wpAny_bind (S _ _ _ _ _ h1 A fenv env h₀ L Fm fr own ρ pu s _ I ?_)
  intro x ρ' pu' s' p1 q1 vr I' sm
  exact chainV_ok C S Fm _ h2 vr I' (hQ.shift p1 q1 sm)
theorem t_compare (C : CmpOk G p) (S : SE G d ih) (Fm : Frm G A sc fenv env h₀ L d) {l : Expr} {ops : List CmpOp} {cs : List Expr} {pos : Pos} {a : V} {b : Bool} {st₁ : St} {whole : Sem Value} {Q : Bool → Shared → Prop}
    (hm : lastMarks ops cs = false) (h1 : ih sc (.e l) st = some (.v a, st₁)) (h2 : chain p ih sc a ops cs st₁ = some (b, st')) (I : Inv G.R Z env h₀ L fr own st ρ pu s.heap) (hQ : BP G.R Z env h₀ L fr own st' ρ pu s b Q) :
    wpAny (model G.prog G.w) A (isTrue (.Compare l ops cs pos) env whole) Q noE s := by
  rw [arm_isTrue_Compare, markedEach_of_false _ _ _ hm]
  refine wpAny_bind (S _ _ _ _ _ h1 A fenv env h₀ L Fm fr own ρ pu s _ I ?_)
  intro x ρ' pu' s' p1 q1 vr I' sm
  exact chainT_ok C S Fm _ h2 vr I' (hQ.shift p1 q1 sm)
theorem t_value (S : SE G d ih) (Fm : Frm G A sc fenv env h₀ L d) {x : Expr} {b : Bool} {Q : Bool → Shared → Prop} (hx : isTrue x env (eval x env) = (do let v ← eval x env; standAt x.pos; holding [v] (truthy v)))
    (h1 : ih sc (.e x) st = some (.v (.bool b), st')) (I : Inv G.R Z env h₀ L fr own st ρ pu s.heap) (hQ : BP G.R Z env h₀ L fr own st' ρ pu s b Q) : wpAny (model G.prog G.w) A (isTrue x env (eval x env)) Q noE s := by
  refine wpAny_isTrue_value (S _ _ _ _ _ h1 A fenv env h₀ L Fm fr own ρ pu s _ I ?_) hx
  intro v ρ' pu' s' p1 q1 vr I' sm
  obtain rfl := vr.bool_inv
  exact wpAny_truthy_bool (hQ ρ' pu' s' p1 q1 I' sm)
set_option tactic.hygienic true in
theorem attributeBase_plain {o : Expr} {a : Str} {whole : Sem Value} (h : plainBase o = true) : attributeBase o a env whole = whole := by
  (first | exact Mine.ns o | exact Mine.ft o | exact Mine.sn o | exact Mine.tf o | cases o)
  case Call f args ks q =>
    (first | exact Mine.ns f | exact Mine.ft f | exact Mine.sn f | exact Mine.tf f | cases f)
    case Name =>
      cases args with
      | cons _ _ => rfl
      | nil =>
        cases ks with
        | cons _ _ => rfl
        | nil => exact ft h
    all_goals rfl
  all_goals rfl
theorem e_attr (T : AttOk G p) (S : SE G d ih) (Fm : Frm G A sc fenv env h₀ L d) {o : Expr} {a : Str} {pos : Pos} {ov v : V} {Q : Value → Shared → Prop} (hb : plainBase o = true)
    (h1 : ih sc (.e o) st = some (.v ov, st')) (h2 : attrV p st'.h ov a = some v) (I : Inv G.R Z env h₀ L fr own st ρ pu s.heap) (hQ : EP G.R Z env h₀ L fr own st' ρ pu s v Q) :
    wpAny (model G.prog G.w) A (eval (.Attribute o a pos) env) Q noE s := by
  refine Attribute_any_ (S _ _ _ _ _ h1 A fenv env h₀ L Fm fr own ρ pu s _ I ?_) (by rw [arm_eval_Attribute, attributeBase_plain hb])
  intro x ρ' pu' s' p1 q1 vr I' sm
  exact T _ _ _ _ h2 A sc fenv env h₀ L d Fm fr own st'.l ρ' pu' s' x Q I' vr (hQ.shift p1 q1 sm)
end
end Mine

end
section -- S3
namespace Mine
open PySem PySem.W PySem.Calls PyProof.Rows

noncomputable def KwR (R : Rc) (ρ : List Addr) (pu : Led) : Option V → List (Str × Value) → Prop
  | none, kws => kws = []
  | some d, kws => ∃ v, kws = [(("key" : Str), v)] ∧ VR R ρ pu d v
noncomputable def SCl (G : Glb) (d : Nat) (ih : Ev) : Prop := ∀ sc f args kw st v st', ih sc (.c f args kw) st = some (.v v, st') →
  ∀ A sc' fenv env h₀ L, Frm G A sc' fenv env h₀ L d → ∀ {Z : ZP} fr own ρ pu s x vals kws Q, Inv G.R Z env h₀ L fr own st ρ pu s.heap → VR G.R ρ pu f x → VRs G.R ρ pu args vals → KwR G.R ρ pu kw kws →
    EP G.R Z env h₀ L fr own st' ρ pu s v Q → wpAny (model G.prog G.w) A (call x vals kws) Q noE s
/-- what a method's name finds -/
noncomputable def MetOk (G : Glb) (p : Par) : Prop := ∀ (h : List MO) (o : V) (a : Str) (f : V) (first : Bool), methT p h o a = some (f, first) →
  ∀ A sc fenv env h₀ L d, Frm G A sc fenv env h₀ L d → ∀ {Z : ZP} fr own l ρ pu s x pl Q, Inv G.R Z env h₀ L fr own ⟨l, h⟩ ρ pu s.heap → VR G.R ρ pu o x →
    (∀ y ρ' pu' s', Pre ρ ρ' → Sub pu pu' → VR G.R ρ' pu' f y → Inv G.R Z env h₀ L fr own ⟨l, h⟩ ρ' pu' s'.heap → Same s s' → Q (y, (match first with | true => [x] | false => [])) s') →
    wpAny (model G.prog G.w) A (getMethod x a pl) Q noE s
noncomputable def SubOk (G : Glb) (p : Par) : Prop := ∀ (h : List MO) (o i r : V), subV p h o i = some r →
  ∀ A sc fenv env h₀ L d, Frm G A sc fenv env h₀ L d → ∀ {Z : ZP} fr own l ρ pu s x y value slice Q, (∀ a b c q, slice ≠ .Slice a b c q) → Inv G.R Z env h₀ L fr own ⟨l, h⟩ ρ pu s.heap → VR G.R ρ pu o x → VR G.R ρ pu i y →
    EP G.R Z env h₀ L fr own ⟨l, h⟩ ρ pu s r Q → wpAny (model G.prog G.w) A (subscriptTail value slice x y) Q noE s

section
variable {Z : ZP} {G : Glb} {p : Par} {A : Around} {sc : Scope} {fenv env : Env} {h₀ : Heap} {L : Addr} {d : Nat} {fr own : Led} {st st' : St} {ρ : List Addr} {pu : Led} {s : Shared} {ih : Ev}

theorem e_not (S : SE G d ih) (Fm : Frm G A sc fenv env h₀ L d) {x : Expr} {pos : Pos} {b : Bool} {Q : Value → Shared → Prop} (h1 : ih sc (.e x) st = some (.v (.bool b), st')) (I : Inv G.R Z env h₀ L fr own st ρ pu s.heap) (hQ : EP G.R Z env h₀ L fr own st' ρ pu s (.bool (!b)) Q) :
    wpAny (model G.prog G.w) A (eval (.UnaryOp .Not x pos) env) Q noE s := by
  refine wpAny_UnaryOp (S _ _ _ _ _ h1 A fenv env h₀ L Fm fr own ρ pu s _ I ?_)
  intro v ρ' pu' s' p1 q1 vr I' sm
  obtain rfl := vr.bool_inv
  exact not_of (wpAny_truthy_bool (hQ _ ρ' pu' s' p1 q1 (.bool _) I' sm))
theorem e_neg (S : SE G d ih) (Fm : Frm G A sc fenv env h₀ L d) {x : Expr} {pos : Pos} {i : Int} {Q : Value → Shared → Prop} (h1 : ih sc (.e x) st = some (.v (.int i), st')) (I : Inv G.R Z env h₀ L fr own st ρ pu s.heap) (hQ : EP G.R Z env h₀ L fr own st' ρ pu s (.int (-i)) Q) :
    wpAny (model G.prog G.w) A (eval (.UnaryOp .USub x pos) env) Q noE s := by
  refine wpAny_UnaryOp (S _ _ _ _ _ h1 A fenv env h₀ L Fm fr own ρ pu s _ I ?_)
  intro v ρ' pu' s' p1 q1 vr I' sm
  obtain ⟨_, rfl⟩ := vr.int_inv; clear vr
  exact neg_int (hQ _ ρ' pu' _ p1 q1 (.int _ _) I' (sm.trans ⟨s'.heap, _, rfl⟩))
theorem e_dict {pos : Pos} {Q : Value → Shared → Prop} (I : Inv G.R Z env h₀ L fr own st ρ pu s.heap) (hQ : EP G.R Z env h₀ L fr own st ρ pu s .any Q) : wpAny (model G.prog G.w) A (eval (.Dict [] [] pos) env) Q noE s := by
  obtain ⟨m, mm, tb, chs, W⟩ := I
  refine wpAny_Dict_empty (hQ _ ρ pu _ (Pre.refl _) (Sub.refl _) (.any rfl) ⟨m, mm, tb, chs, W.again (W.F.push _) ?_⟩ ⟨_, s.toks, rfl⟩)
  exact fun q hq => (News.push W.F W.N _) q (List.mem_cons_of_mem _ hq)
theorem e_sub (T : SubOk G p) (S : SE G d ih) (Fm : Frm G A sc fenv env h₀ L d) {o i : Expr} {pos : Pos} {ov iv v : V} {st₁ : St} {Q : Value → Shared → Prop} (hs : ∀ a b c q, i ≠ .Slice a b c q)
    (h1 : ih sc (.e o) st = some (.v ov, st₁)) (h2 : ih sc (.e i) st₁ = some (.v iv, st')) (h3 : subV p st'.h ov iv = some v) (I : Inv G.R Z env h₀ L fr own st ρ pu s.heap) (hQ : EP G.R Z env h₀ L fr own st' ρ pu s v Q) :
    wpAny (model G.prog G.w) A (eval (.Subscript o i pos) env) Q noE s := by
  refine Subscript_ (S _ _ _ _ _ h1 A fenv env h₀ L Fm fr own ρ pu s _ I ?_)
  intro x ρ' pu' s' p1 q1 vr I' sm
  refine S _ _ _ _ _ h2 A fenv env h₀ L Fm fr own ρ' pu' s' _ I' ?_
  intro y ρ'' pu'' s'' p2 q2 vr2 I'' sm'
  exact T _ _ _ _ h3 A sc fenv env h₀ L d Fm fr own st'.l ρ'' pu'' s'' x y o i Q hs I'' (vr.mono p2 q2) vr2 (hQ.shift (p1.trans p2) (q1.trans q2) (sm.trans sm'))

theorem keep_of (P : ParOk G p) {f : V} {x : Value} (hc : calB p f = true) (hv : VR G.R ρ pu f x) (h : Heap) (hh : G.R.K.In h ∧ ∀ q ∈ pu, h.get? q.1 = some q.2) :
    ∃ k, (k = Keeper.frame ∨ k = Keeper.machine ∨ k = Keeper.boundFrame) ∧ Looks (model G.prog G.w) h (keeperOf x) k := by
  cases f with
  | bi k =>
    obtain rfl := hv.bi_inv
    refine ⟨.machine, .inr (.inl rfl), Looks.of_pure ?_⟩
    refine biV_all (P := fun v => keeperOf v = pure .machine) ?_ rfl k
    unfold biT
    simp only [List.forall_mem_cons]
    exact ⟨rfl, rfl, rfl, rfl, rfl, rfl, rfl, rfl, rfl, rfl, rfl, rfl, rfl, rfl, rfl, fun _ h => nomatch h⟩
  | clo ps body sc =>
    obtain ⟨_, _, _, _, _, _, _, _, _, rfl, hf, _⟩ := hv.clo_inv
    exact ⟨.frame, .inl rfl, (Looks.ld (part := none) (hh.2 _ hf)).andThen .now⟩
  | val x =>
    obtain rfl := hv.val_inv
    cases x with
    | ref a => exact keeps_K (P.kp a hc) h hh.1
    | _ => exact ft hc
  | _ => exact ft hc
theorem Inv.inPu {R : Rc} (I : Inv R Z env h₀ L fr own st ρ pu s.heap) : ∀ q ∈ pu, s.heap.get? q.1 = some q.2 := by
  obtain ⟨m, mm, tb, chs, W⟩ := I
  exact fun q hq => W.puMem hq
theorem Inv.inK {R : Rc} (I : Inv R Z env h₀ L fr own st ρ pu s.heap) (hk : R.K.In h₀) : R.K.In s.heap := by
  obtain ⟨m, mm, tb, chs, W⟩ := I
  exact hk.keeps W.F.keep
theorem any_plain (ih : Ev) (NS : NoStar ih) {sc : Scope} {pos : Pos} : ∀ {xs : List Expr} {st st' : St} {ds : List V}, evs ih sc xs st = some (ds, st') → (backTo pos (starEach xs env)).any (·.1) = false
  | [], _, _, _, _ => rfl
  | x :: r, st, st', ds, e => by
    unfold evs at e
    revert e; refine zPVSt fun _ _ _ e => ?_
    rename_i h1
    have hx : ∀ y q, x ≠ .Starred y q := by
      rintro y q rfl
      have := asV_some h1
      rw [NS] at this; (first | exact Mine.ns this | exact Mine.ft this | exact Mine.sn this | exact Mine.tf this | cases this)
    revert e; refine zPLVSt fun _ _ _ e => ?_
    rename_i h2
    rw [starEach_plain hx]
    show (false || (backTo pos (starEach r env)).any (·.1)) = false
    rw [any_plain ih NS h2]; rfl
theorem evalArgs_ok (S : SE G d ih) (NS : NoStar ih) (Fm : Frm G A sc fenv env h₀ L d) {pos : Pos} {f : Value} {xs : List Expr} {ds : List V} {Q : Args → Shared → Prop}
    (e : evs ih sc xs st = some (ds, st')) (I : Inv G.R Z env h₀ L fr own st ρ pu s.heap) (hQ : EPs G.R Z env h₀ L fr own st' ρ pu s ds (fun vs s' => Q ⟨vs, []⟩ s')) : wpAny (model G.prog G.w) A (evalArgs f true (backTo pos (starEach xs env)) []) Q noE s := by
  have h := evs_ok S NS Fm (pos := pos) e I hQ
  cases xs with
  | nil => (first | exact Mine.ns e | exact Mine.ft e | exact Mine.sn e | exact Mine.tf e | cases e); exact evalArgs_nil3 (hQ [] ρ pu s (Pre.refl _) (Sub.refl _) .nil I (Same.refl s))
  | cons x r =>
    have hx : ∀ y q, x ≠ .Starred y q := by
      rintro y q rfl
      unfold evs at e
      rw [NS] at e; (first | exact Mine.ns e | exact Mine.ft e | exact Mine.sn e | exact Mine.tf e | cases e)
    rw [starEach_plain hx] at h ⊢
    exact evalArgs_plain h
/-- the arguments, then the call -/
theorem callWith_ok (P : ParOk G p) (S : SE G d ih) (C : SCl G d ih) (NS : NoStar ih) (Fm : Frm G A sc fenv env h₀ L d) {pos : Pos} {f v : V} {x : Value} {xs : List Expr} {ds : List V} {fd : List V} {first : List Value} {st₁ : St} {Q : Value → Shared → Prop}
    (hc : calB p f = true) (hf : VR G.R ρ pu f x) (hfirst : VRs G.R ρ pu fd first) (e : evs ih sc xs st = some (ds, st₁)) (e2 : ih sc (.c f (fd ++ ds) none) st₁ = some (.v v, st')) (I : Inv G.R Z env h₀ L fr own st ρ pu s.heap)
    (hQ : EP G.R Z env h₀ L fr own st' ρ pu s v Q) : wpAny (model G.prog G.w) A (callWith pos x first (backTo pos (starEach xs env)) []) Q noE s := by
  refine callWith_of (P := fun h => G.R.K.In h ∧ ∀ q ∈ pu, h.get? q.1 = some q.2) (by rw [any_plain ih NS e]; rfl) (fun h hh => keep_of P hc hf h hh) (evalArgs_ok S NS Fm e I ?_)
  intro vs ρ' pu' s' p1 q1 vr I' sm
  refine ⟨⟨I'.inK Fm.kin, fun q hq => I'.inPu q (q1 q hq)⟩, ?_⟩
  exact C _ _ _ _ _ _ _ e2 A sc fenv env h₀ L Fm fr own ρ' pu' s' x (first ++ vs) [] Q I' (hf.mono p1 q1) (VRs.append (hfirst.mono p1 q1) vr) rfl (hQ.shift p1 q1 sm)
theorem eval_Call_plain {f : Expr} {args : List Expr} {pos : Pos} (hf : ∀ o a q, f ≠ .Attribute o a q) : eval (.Call f args [] pos) env = (do callWith pos (← eval f env) [] (backTo pos (starEach args env)) []) := by
  (first | exact Mine.ns f | exact Mine.ft f | exact Mine.sn f | exact Mine.tf f | cases f) <;> first | rfl | exact absurd rfl (hf _ _ _)
theorem e_call (P : ParOk G p) (S : SE G d ih) (C : SCl G d ih) (NS : NoStar ih) (Fm : Frm G A sc fenv env h₀ L d) {pos : Pos} {f : Expr} {xs : List Expr} {fv v : V} {ds : List V} {st₁ st₂ : St} {Q : Value → Shared → Prop} (hf : ∀ o a q, f ≠ .Attribute o a q)
    (h1 : ih sc (.e f) st = some (.v fv, st₁)) (hc : calB p fv = true) (e : evs ih sc xs st₁ = some (ds, st₂)) (e2 : ih sc (.c fv ds none) st₂ = some (.v v, st')) (I : Inv G.R Z env h₀ L fr own st ρ pu s.heap)
    (hQ : EP G.R Z env h₀ L fr own st' ρ pu s v Q) : wpAny (model G.prog G.w) A (eval (.Call f xs [] pos) env) Q noE s := by
  rw [eval_Call_plain hf]
  refine wpAny_bind (S _ _ _ _ _ h1 A fenv env h₀ L Fm fr own ρ pu s _ I ?_)
  intro x ρ' pu' s' p1 q1 vr I' sm
  exact callWith_ok P S C NS Fm (fd := []) hc vr .nil e e2 I' (hQ.shift p1 q1 sm)
theorem e_meth (P : ParOk G p) (T : MetOk G p) (S : SE G d ih) (C : SCl G d ih) (NS : NoStar ih) (Fm : Frm G A sc fenv env h₀ L d) {ap pos : Pos} {o : Expr} {a : Str} {xs : List Expr} {ov f v : V} {first : Bool} {ds : List V} {st₁ st₂ : St} {Q : Value → Shared → Prop}
    (hb : plainBase o = true) (hn : xs.length ≤ 20) (hl : ap.endLine = pos.line)
    (h1 : ih sc (.e o) st = some (.v ov, st₁)) (hm : methT p st₁.h ov a = some (f, first)) (hc : calB p f = true) (e : evs ih sc xs st₁ = some (ds, st₂)) (e2 : ih sc (.c f (match (generalizing := false) first with | true => ov :: ds | false => ds) none) st₂ = some (.v v, st'))
    (I : Inv G.R Z env h₀ L fr own st ρ pu s.heap) (hQ : EP G.R Z env h₀ L fr own st' ρ pu s v Q) : wpAny (model G.prog G.w) A (eval (.Call (.Attribute o a ap) xs [] pos) env) Q noE s := by
  have hform : methodCallForm (xs.length + ([] : List Keyword).length) (backTo pos (starEach xs env)) [] = true := by
    have := any_plain (env := env) ih NS (pos := pos) e
    have ha : (backTo pos (starEach xs env)).all (!·.1) = true := by
      rw [List.all_eq_true]
      intro q hq
      rw [List.any_eq_false] at this
      have := this q hq
      simpa using this
    unfold methodCallForm
    rw [ha]
    simp
    lia
  rw [arm_eval_Call, attributeBase_plain hb]
  refine wpAny_bind (S _ _ _ _ _ h1 A fenv env h₀ L Fm fr own ρ pu s _ I ?_)
  intro x ρ' pu' s' p1 q1 vr I' sm
  refine wpAny_bind (wpAny_standAt ?_)
  show wpAny _ A (methodCall o a ap pos env x (xs.length + ([] : List Keyword).length) (backTo pos (starEach xs env)) []) Q noE s'
  unfold methodCall
  rw [hform]
  refine wpAny_bind (wpAny_holding ?_)
  refine T _ _ _ _ _ hm A sc fenv env h₀ L d Fm fr own st₁.l ρ' pu' s' x _ _ I' vr ?_
  intro y ρ'' pu'' s'' p2 q2 vy I'' sm'
  dsimp only
  have hp : methodCallPos true o env ap pos = pure pos := by
    unfold methodCallPos
    rw [hl]
    simp
  rw [hp]
  refine wpAny_bind (wpAny_pure ?_)
  have hQ' := hQ.shift (p1.trans p2) (q1.trans q2) (sm.trans sm')
  cases first with
  | true => exact callWith_ok P S C NS Fm (fd := [ov]) hc vy (.cons (vr.mono p2 q2) .nil) e e2 I'' hQ'
  | false => exact callWith_ok P S C NS Fm (fd := []) hc vy .nil e e2 I'' hQ'
end
end Mine

end
section -- S4
namespace Mine
open PySem PySem.W PySem.Calls PyProof.Rows

noncomputable def isCell (o : Obj) : Prop := ∃ v, o.data = .cell v
structure OwnR (own' own : Led) : Prop where
  ad : own'.map (·.1) = own.map (·.1)
  ce : (∀ q ∈ own, isCell q.2) → ∀ q ∈ own', isCell q.2
theorem OwnR.refl (own : Led) : OwnR own own := ⟨rfl, fun h => h⟩
theorem OwnR.trans {a b c : Led} (h : OwnR a b) (k : OwnR b c) : OwnR a c := ⟨h.ad.trans k.ad, fun x => h.ce (k.ce x)⟩
noncomputable def FP (R : Rc) (env : Env) (h₀ : Heap) (L : Addr) (fr own : Led) (st : St) (ρ : List Addr) (pu : Led) (s : Shared) (fl : Fl) (Q : Flow → Shared → Prop) : Prop := match fl with
  | .nx => ∀ ρ' pu' own' s', Pre ρ ρ' → Sub pu pu' → OwnR own' own → Inv R Z0 env h₀ L fr own' st ρ' pu' s'.heap → Same s s' → Q .next s'
  | .ret d => ∀ v ρ' pu' own' s', Pre ρ ρ' → Sub pu pu' → OwnR own' own → VR R ρ' pu' d v → Inv R Z0 env h₀ L fr own' st ρ' pu' s'.heap → Same s s' → Q (.ret v) s'
/-- the frame of a def: its names may be stored -/
structure FnF (fenv : Env) (L : Addr) (sc : Scope) (own : Led) : Prop where
  loc : fenv.locals = L
  scp : fenv.scope = sc
  kin : ∀ x, fenv.kindOf x = sc.names.lookup x
  cel : fenv.cells.map (·.2) = own.map (·.1)
  one : fenv.cells.length ≤ 1
  cin : ∀ x, fenv.kindOf x = some .cell → ∃ c, fenv.cells.lookup x = some c
  cdt : ∀ q ∈ own, isCell q.2
theorem FnF.own {fenv : Env} {L : Addr} {sc : Scope} {own own' : Led} (h : FnF fenv L sc own) (e : OwnR own' own) : FnF fenv L sc own' := ⟨h.loc, h.scp, h.kin, h.cel.trans e.ad.symm, h.one, h.cin, e.ce h.cdt⟩
noncomputable def SSt (G : Glb) (d : Nat) (ih : Ev) : Prop := ∀ sc ss st fl st', ih sc (.s ss) st = some (.f fl, st') →
  ∀ A fenv h₀ L, Frm G A sc fenv fenv h₀ L d → ∀ fr own ρ pu s Q, FnF fenv L sc own → Inv G.R Z0 fenv h₀ L fr own st ρ pu s.heap → FP G.R fenv h₀ L fr own st' ρ pu s fl Q → wpAny (model G.prog G.w) A (execs ss fenv) Q noE s
noncomputable def SWh (G : Glb) (d : Nat) (ih : Ev) : Prop := ∀ sc t b st fl st', ih sc (.w t b) st = some (.f fl, st') →
  ∀ A fenv h₀ L, Frm G A sc fenv fenv h₀ L d → ∀ fr own ρ pu s (R : Result → Shared → Prop), FnF fenv L sc own → Inv G.R Z0 fenv h₀ L fr own st ρ pu s.heap → FP G.R fenv h₀ L fr own st' ρ pu s fl (fun f s' => R (.ok f) s') →
    codeAny (model G.prog G.w) A (.whileLoop t b [] fenv) R s

section
variable {Z : ZP} {G : Glb} {p : Par} {A : Around} {sc : Scope} {fenv env : Env} {h₀ : Heap} {L : Addr} {d : Nat} {fr own : Led} {st st' : St} {ρ : List Addr} {pu : Led} {s : Shared} {ih : Ev}

theorem FP.shift {R : Rc} {fl : Fl} {Q : Flow → Shared → Prop} {ρ' : List Addr} {pu' own' : Led} {s' : Shared} (h : FP R env h₀ L fr own st ρ pu s fl Q) (h1 : Pre ρ ρ') (h2 : Sub pu pu') (ho : OwnR own' own) (hs : Same s s') :
    FP R env h₀ L fr own' st ρ' pu' s' fl Q := by
  cases fl with
  | nx => exact fun ρ'' pu'' o s'' a b c e f => h ρ'' pu'' o s'' (h1.trans a) (h2.trans b) (c.trans ho) e (hs.trans f)
  | ret d => exact fun v ρ'' pu'' o s'' a b c e f g => h v ρ'' pu'' o s'' (h1.trans a) (h2.trans b) (c.trans ho) e f (hs.trans g)

theorem s_expr (S : SE G d ih) (Fm : Frm G A sc fenv fenv h₀ L d) {f : Expr} {xs : List Expr} {ks : List Keyword} {q pos : Pos} {v : V} {Q : Flow → Shared → Prop}
    (h1 : ih sc (.e (.Call f xs ks q)) st = some (.v v, st')) (I : Inv G.R Z0 fenv h₀ L fr own st ρ pu s.heap) (hQ : FP G.R fenv h₀ L fr own st' ρ pu s .nx Q) : wpAny (model G.prog G.w) A (exec (.Expr (.Call f xs ks q) pos) fenv) Q noE s := by
  refine wpAny_Expr_any (S _ _ _ _ _ h1 A fenv fenv h₀ L Fm fr own ρ pu s _ I ?_) (by unfold interactive; rw [Fm.fk]; rfl) (by rfl)
  intro v' ρ' pu' s' p1 q1 vr I' sm
  exact hQ ρ' pu' own s' p1 q1 (OwnR.refl _) I' sm
theorem s_return (S : SE G d ih) (Fm : Frm G A sc fenv fenv h₀ L d) {x : Expr} {pos : Pos} {v : V} {Q : Flow → Shared → Prop}
    (h1 : ih sc (.e x) st = some (.v v, st')) (I : Inv G.R Z0 fenv h₀ L fr own st ρ pu s.heap) (hQ : FP G.R fenv h₀ L fr own st' ρ pu s (.ret v) Q) : wpAny (model G.prog G.w) A (exec (.Return (some x) pos) fenv) Q noE s := by
  refine wpAny_Return_some (S _ _ _ _ _ h1 A fenv fenv h₀ L Fm fr own ρ pu s _ I ?_)
  intro v' ρ' pu' s' p1 q1 vr I' sm
  exact hQ v' ρ' pu' own s' p1 q1 (OwnR.refl _) vr I' sm
theorem s_return0 {pos : Pos} {Q : Flow → Shared → Prop} (I : Inv G.R Z0 fenv h₀ L fr own st ρ pu s.heap) (hQ : FP G.R fenv h₀ L fr own st ρ pu s (.ret .none) Q) : wpAny (model G.prog G.w) A (exec (.Return none pos) fenv) Q noE s :=
  wpAny_Return_none (hQ _ ρ pu own s (Pre.refl _) (Sub.refl _) (OwnR.refl _) .none I (Same.refl s))
theorem s_if (T : STt G d ih) (B : SSt G d ih) (Fm : Frm G A sc fenv fenv h₀ L d) (FF : FnF fenv L sc own) {t : Expr} {b o : List Stmt} {pos : Pos} {c : Bool} {fl : Fl} {st₁ : St} {Q : Flow → Shared → Prop}
    (h1 : ih sc (.t t) st = some (.b c, st₁)) (h2 : ih sc (.s (if c then b else o)) st₁ = some (.f fl, st')) (I : Inv G.R Z0 fenv h₀ L fr own st ρ pu s.heap) (hQ : FP G.R fenv h₀ L fr own st' ρ pu s fl Q) :
    wpAny (model G.prog G.w) A (exec (.If t b o pos) fenv) Q noE s := by
  refine wpAny_If (T _ _ _ _ _ h1 A fenv fenv h₀ L Fm fr own ρ pu s _ I ?_)
  intro ρ' pu' s' p1 q1 I' sm
  have := B _ _ _ _ _ h2 A fenv h₀ L Fm fr own ρ' pu' s' Q FF I' (hQ.shift p1 q1 (OwnR.refl _) sm)
  (first | exact Mine.ns c | exact Mine.ft c | exact Mine.sn c | exact Mine.tf c | cases c) <;> exact this
theorem s_try (B : SSt G d ih) (Fm : Frm G A sc fenv fenv h₀ L d) (FF : FnF fenv L sc own) {b : List Stmt} {hd : ExceptHandler} {hs : List ExceptHandler} {pos : Pos} {fl : Fl} {Q : Flow → Shared → Prop}
    (h1 : ih sc (.s b) st = some (.f fl, st')) (I : Inv G.R Z0 fenv h₀ L fr own st ρ pu s.heap) (hQ : FP G.R fenv h₀ L fr own st' ρ pu s fl Q) : wpAny (model G.prog G.w) A (exec (.Try b (hd :: hs) [] [] pos) fenv) Q noE s := by
  refine wpAny_Try_except (wpAny_mono (B _ _ _ _ _ h1 A fenv h₀ L Fm fr own ρ pu s _ FF I ?_) (fun _ _ x => x) fun _ _ x => x.elim)
  cases fl with
  | nx =>
    intro ρ' pu' own' s' p1 q1 o1 I' sm
    exact wpAny_execs_nil (hQ ρ' pu' own' s' p1 q1 o1 I' sm)
  | ret v =>
    intro v' ρ' pu' own' s' p1 q1 o1 vr I' sm
    exact hQ v' ρ' pu' own' s' p1 q1 o1 vr I' sm
theorem s_cons (B : SSt G d ih) (Fm : Frm G A sc fenv fenv h₀ L d) (FF : FnF fenv L sc own) {x : Stmt} {r : List Stmt} {fl : Fl} {st₁ : St} {Q : Flow → Shared → Prop}
    (hx : ∀ Q', FP G.R fenv h₀ L fr own st₁ ρ pu s .nx Q' → wpAny (model G.prog G.w) A (exec x fenv) Q' noE s) (h2 : ih sc (.s r) st₁ = some (.f fl, st')) (hQ : FP G.R fenv h₀ L fr own st' ρ pu s fl Q) :
    wpAny (model G.prog G.w) A (execs (x :: r) fenv) Q noE s := by
  refine wpAny_execs_cons (hx _ ?_)
  intro ρ' pu' own' s' p1 q1 o1 I' sm
  exact B _ _ _ _ _ h2 A fenv h₀ L Fm fr own' ρ' pu' s' Q (FF.own o1) I' (hQ.shift p1 q1 o1 sm)
theorem s_cons_ret {x : Stmt} {r : List Stmt} {v : V} {Q : Flow → Shared → Prop}
    (hx : ∀ Q', FP G.R fenv h₀ L fr own st' ρ pu s (.ret v) Q' → wpAny (model G.prog G.w) A (exec x fenv) Q' noE s) (hQ : FP G.R fenv h₀ L fr own st' ρ pu s (.ret v) Q) :
    wpAny (model G.prog G.w) A (execs (x :: r) fenv) Q noE s := by
  refine wpAny_execs_cons (hx _ ?_)
  intro v' ρ' pu' own' s' p1 q1 o1 vr I' sm
  exact hQ v' ρ' pu' own' s' p1 q1 o1 vr I' sm
set_option tactic.hygienic true in
theorem w_turn (T : STt G d ih) (B : SSt G d ih) (W : SWh G d ih) (Fm : Frm G A sc fenv fenv h₀ L d) (FF : FnF fenv L sc own) {t : Expr} {b : List Stmt} {fl : Fl} {R : Result → Shared → Prop} {c : Bool} {st₁ : St}
    (h1 : ih sc (.t t) st = some (.b c, st₁)) (h2 : (match c with
      | true => (match asF (ih sc (.s b) st₁) with
        | some (.nx, st) => ih sc (.w t b) st
        | some (.ret v, st) => some (.f (.ret v), st)
        | none => none)
      | false => some (.f .nx, st₁)) = some (.f fl, st')) (I : Inv G.R Z0 fenv h₀ L fr own st ρ pu s.heap) (hQ : FP G.R fenv h₀ L fr own st' ρ pu s fl (fun f s' => R (.ok f) s')) :
    codeAny (model G.prog G.w) A (.whileLoop t b [] fenv) R s := by
  refine codeAny_of_tree ?_
  rw [show A.under (.whileLoop t b [] fenv) = A from Around.under_of_weight rfl]
  show wpAny _ A ((whileTurn t b [] fenv).onRaise (fun x => do noteFrame x fenv; theTreesLotGoes x)) _ _ s
  refine wpAny_noted (wpAny_mono (E := noE) ?_ (fun _ _ x => x) fun _ _ x => x.elim)
  unfold whileTurn
  refine wpAny_bind (T _ _ _ _ _ h1 A fenv fenv h₀ L Fm fr own ρ pu s _ I ?_)
  intro ρ' pu' s' p1 q1 I' sm
  cases c with
  | false =>
    (first | exact Mine.ns h2 | exact Mine.ft h2 | exact Mine.sn h2 | exact Mine.tf h2 | cases h2)
    exact wpAny_bind (wpAny_execs_nil (wpAny_pure (hQ ρ' pu' own s' p1 q1 (OwnR.refl _) I' sm)))
  | true =>
    simp only [] at h2
    (first | (revert h2; refine mb (fun _ h2 => ?_) (fun _ h2 => ?_)) | split at h2)
    · rename_i st₂ hb
      refine wpAny_bind (B _ _ _ _ _ (asF_some hb) A fenv h₀ L Fm fr own ρ' pu' s' _ FF I' ?_)
      intro ρ'' pu'' own'' s'' p2 q2 o2 I'' sm'
      exact wpAny_pure ⟨rfl, W _ _ _ _ _ _ h2 A fenv h₀ L Fm fr own'' ρ'' pu'' s'' R (FF.own o2) I'' (hQ.shift (p1.trans p2) (q1.trans q2) o2 (sm.trans sm'))⟩
    · rename_i v st₂ hb
      (first | exact Mine.ns h2 | exact Mine.ft h2 | exact Mine.sn h2 | exact Mine.tf h2 | cases h2)
      refine wpAny_bind (B _ _ _ _ _ (asF_some hb) A fenv h₀ L Fm fr own ρ' pu' s' _ FF I' ?_)
      intro v' ρ'' pu'' own'' s'' p2 q2 o2 vr I'' sm'
      exact wpAny_pure (hQ v' ρ'' pu'' own'' s'' (p1.trans p2) (q1.trans q2) o2 vr I'' (sm.trans sm'))
    · (first | exact Mine.ns h2 | exact Mine.ft h2 | exact Mine.sn h2 | exact Mine.tf h2 | cases h2)
theorem s_while (W : SWh G d ih) (Fm : Frm G A sc fenv fenv h₀ L d) (FF : FnF fenv L sc own) {t : Expr} {b : List Stmt} {pos : Pos} {fl : Fl} {Q : Flow → Shared → Prop}
    (h1 : ih sc (.w t b) st = some (.f fl, st')) (I : Inv G.R Z0 fenv h₀ L fr own st ρ pu s.heap) (hQ : FP G.R fenv h₀ L fr own st' ρ pu s fl Q) : wpAny (model G.prog G.w) A (exec (.While t b [] pos) fenv) Q noE s :=
  wpAny_While (W _ _ _ _ _ _ h1 A fenv h₀ L Fm fr own ρ pu s _ FF I hQ)

/-! ## stores -/
theorem lookup_memL {α β : Type} [BEq α] [LawfulBEq α] {x : α} {y : β} : ∀ {l : List (α × β)}, l.lookup x = some y → (x, y) ∈ l
  | [], h => by (first | exact Mine.ns h | exact Mine.ft h | exact Mine.sn h | exact Mine.tf h | cases h)
  | (k, v) :: r, h => by
    rw [List.lookup_cons] at h
    (first | (revert h; refine mb (fun _ h => ?_) (fun _ h => ?_)) | split at h)
    · rename_i e; (first | exact Mine.ns h | exact Mine.ft h | exact Mine.sn h | exact Mine.tf h | cases h); rw [beq_iff_eq.mp e]; exact List.mem_cons_self ..
    · exact List.mem_cons_of_mem _ (lookup_memL h)
theorem own_one {cells : List (Str × Addr)} {own : Led} {x : Str} {c : Addr} (h1 : cells.map (·.2) = own.map (·.1)) (h2 : cells.length ≤ 1) (h3 : (x, c) ∈ cells) : ∃ o, own = [(c, o)] := by
  cases cells with
  | nil => (first | exact Mine.ns h3 | exact Mine.ft h3 | exact Mine.sn h3 | exact Mine.tf h3 | cases h3)
  | cons q r =>
    cases r with
    | cons _ _ => simp at h2
    | nil =>
      have hq := List.mem_singleton.mp h3
      subst hq
      cases own with
      | nil => simp at h1
      | cons a t =>
        cases t with
        | cons _ _ => simp at h1
        | nil =>
          obtain ⟨b, o⟩ := a
          simp only [List.map_cons, List.map_nil, List.cons.injEq, and_true] at h1
          exact ⟨o, by rw [h1]⟩
theorem cells_inj {cells : List (Str × Addr)} {x y : Str} {c : Addr} (h2 : cells.length ≤ 1) (h3 : (x, c) ∈ cells) (h4 : (y, c) ∈ cells) : y = x := by
  cases cells with
  | nil => (first | exact Mine.ns h3 | exact Mine.ft h3 | exact Mine.sn h3 | exact Mine.tf h3 | cases h3)
  | cons q r =>
    cases r with
    | cons _ _ => simp at h2
    | nil =>
      have e1 := List.mem_singleton.mp h3
      have e2 := List.mem_singleton.mp h4
      rw [← e2] at e1
      exact (Prod.mk.inj e1).1.symm
theorem lookup_sput {x y : Str} {v : V} {l : List (Str × V)} : (sput x v l).lookup y = if y = x then some v else l.lookup y := by
  rw [← slook_eq, slook_sput, slook_eq]
theorem store_ok (Fm : Frm G A sc fenv fenv h₀ L d) (FF : FnF fenv L sc own) {x : Str} {dv : V} {v : Value} {Q : Unit → Shared → Prop} (hm : mayStore sc x = true) (hv : VR G.R ρ pu dv v) (I : Inv G.R Z0 fenv h₀ L fr own st ρ pu s.heap)
    (hQ : ∀ own' s', OwnR own' own → Inv G.R Z0 fenv h₀ L fr own' { st with l := sput x dv st.l } ρ pu s'.heap → Same s s' → Q () s') : wpAny (model G.prog G.w) A (storeName fenv x v) Q noE s := by
  refine opq fun GG kk => ?_
  obtain ⟨m, mm, tb, chs, W⟩ := I
  have hmm : mm = m := by
    rcases W.ns with ⟨_, e⟩ | ⟨oC, hc, hn⟩
    · exact e
    · have h1 := W.ownMem hc
      have h2 := hn.ns h1
      have h3 := W.F.ns
      rw [FF.loc] at h2
      obtain ⟨o, es, ep, a1, a2, a3, a4⟩ := h2
      obtain ⟨o', es', ep', b1, b2, b3, b4⟩ := h3
      rw [a1] at b1
      (first | exact Mine.ns b1 | exact Mine.ft b1 | exact Mine.sn b1 | exact Mine.tf b1 | cases b1)
      rw [a2] at b2
      (first | exact Mine.ns b2 | exact Mine.ft b2 | exact Mine.sn b2 | exact Mine.tf b2 | cases b2)
      funext y
      rw [← a4, ← b4]
  subst hmm
  unfold mayStore at hm
  rw [slook_eq] at hm
  (first | (revert hm; refine mb (fun _ hm => ?_) (fun _ hm => ?_)) | split at hm)
  · rename_i hk
    have hl : fenv.kindOf x = some .local := (FF.kin x).trans hk
    refine kk ?_
    refine wpAny_storeName_local hl W.nsAt (fun h' hn hs => ?_) (by rw [Fm.fk]; rfl)
    rw [FF.loc] at hn hs
    have F' := W.F.set hn hs
    have N' := W.N.set hs
    refine hQ own _ (OwnR.refl _) ⟨_, _, tb, chs, F', trivial, N', W.nd, .inl ⟨FF.loc, rfl⟩, ?_, W.ms, W.tb⟩ ⟨h', s.toks + 1, rfl⟩
    intro y dy hy
    rw [show ({ st with l := sput x dv st.l } : St).l = sput x dv st.l from rfl, lookup_sput] at hy
    by_cases hyx : y = x
    · subst hyx
      rw [if_pos rfl] at hy
      (first | exact Mine.ns hy | exact Mine.ft hy | exact Mine.sn hy | exact Mine.tf hy | cases hy)
      exact .inl ⟨hl, v, if_pos rfl, hv⟩
    · rw [if_neg hyx] at hy
      rcases W.nm y dy hy with ⟨k, w, a, b⟩ | r
      · exact .inl ⟨k, w, (if_neg hyx).trans a, b⟩
      · exact .inr r
  · rename_i hk
    have hl : fenv.kindOf x = some .cell := (FF.kin x).trans hk
    obtain ⟨c, hc⟩ := FF.cin x hl
    obtain ⟨o, hown⟩ := own_one FF.cel FF.one (lookup_memL hc)
    subst hown
    obtain ⟨v₀, hcd⟩ := FF.cdt (c, o) (List.mem_singleton.mpr rfl)
    have hmem : (c, o) ∈ LED fr [(c, o)] tb chs pu := List.mem_append_right _ (List.mem_append_left _ (List.mem_singleton.mpr rfl))
    have N0 := W.N (c, o) hmem
    refine kk ?_
    refine wpAny_storeName_cell Fm.fk hl hc ⟨o, N0.1, hcd⟩ fun h' hv' hs => ?_
    obtain ⟨o', ho', hd'⟩ := hv'
    have nd := W.nd
    have hother : ∀ q ∈ fr ++ (tb ++ (chs.flatten ++ pu)), q.1 ≠ c := by
      intro q hq e
      unfold LED at nd
      rw [show fr ++ ([(c, o)] ++ (tb ++ (chs.flatten ++ pu))) = fr ++ (c, o) :: (tb ++ (chs.flatten ++ pu)) from rfl] at nd
      have pm : List.Perm (fr ++ (c, o) :: (tb ++ (chs.flatten ++ pu))) ((c, o) :: (fr ++ (tb ++ (chs.flatten ++ pu)))) := List.perm_middle
      rw [(pm.map (·.1)).nodup_iff, List.map_cons, List.nodup_cons] at nd
      have hz : q.1 ∈ (fr ++ (tb ++ (chs.flatten ++ pu))).map (·.1) := List.mem_map_of_mem hq
      rw [e] at hz
      exact nd.1 hz
    have F' : Fr h₀ L h' mm := ⟨W.F.ns.sameBut hs (Ne.symm N0.2.1), fun b ob e => (hs.2 b (fun q => by rw [q, N0.2.2] at e; (first | exact Mine.ns e | exact Mine.ft e | exact Mine.sn e | exact Mine.tf e | cases e))).trans (W.F.keep b ob e), W.F.above⟩
    have nd' : ((LED fr [(c, o')] tb chs pu).map (·.1)).Nodup := by
      have := nd
      unfold LED at this ⊢
      simpa only [List.map_append, List.map_cons, List.map_nil] using this
    have N' : News h₀ L h' (LED fr [(c, o')] tb chs pu) := by
      intro q hq
      rcases List.mem_append.mp hq with hq | hq
      · have z := W.N q (List.mem_append_left _ hq)
        exact ⟨(hs.2 _ (hother q (List.mem_append_left _ hq))).trans z.1, z.2⟩
      · rcases List.mem_append.mp hq with hq | hq
        · obtain rfl := List.mem_singleton.mp hq
          exact ⟨ho', N0.2⟩
        · have z := W.N q (List.mem_append_right _ (List.mem_append_right _ hq))
          exact ⟨(hs.2 _ (hother q (List.mem_append_right _ hq))).trans z.1, z.2⟩
    refine hQ [(c, o')] { s with heap := h' } ⟨rfl, fun _ q hq => by rw [List.mem_singleton.mp hq]; exact ⟨_, hd'⟩⟩ ⟨_, _, tb, chs, F', trivial, N', nd', .inl ⟨FF.loc, rfl⟩, ?_, W.ms, W.tb⟩ ⟨h', s.toks, rfl⟩
    intro y dy hy
    rw [show ({ st with l := sput x dv st.l } : St).l = sput x dv st.l from rfl, lookup_sput] at hy
    by_cases hyx : y = x
    · subst hyx
      rw [if_pos rfl] at hy
      (first | exact Mine.ns hy | exact Mine.ft hy | exact Mine.sn hy | exact Mine.tf hy | cases hy)
      exact .inr ⟨.inl hl, c, o', v, hc, List.mem_append_left _ (List.mem_singleton.mpr rfl), hd', hv⟩
    · rw [if_neg hyx] at hy
      rcases W.nm y dy hy with r | ⟨k, c', o2, w, a, b, e, f⟩
      · exact .inl r
      · refine .inr ⟨k, c', o2, w, a, ?_, e, f⟩
        rcases List.mem_append.mp b with b | b
        · have hq := List.mem_singleton.mp b
          (first | exact Mine.ns hq | exact Mine.ft hq | exact Mine.sn hq | exact Mine.tf hq | cases hq)
          exfalso
          apply hyx
          exact cells_inj FF.one (lookup_memL hc) (lookup_memL a)
        · exact List.mem_append_right _ b
  · (first | exact Mine.ns hm | exact Mine.ft hm | exact Mine.sn hm | exact Mine.tf hm | cases hm)
end
end Mine

end
section -- S5
namespace Mine
open PySem PySem.W PySem.Calls PyProof.Rows

/-- a store into an attribute of an object of the mini heap -/
noncomputable def SetOk (G : Glb) (p : Par) : Prop := ∀ (n : Nat) (C : Addr) (ns : List Str) (vs : List V) (a : Str) (dv : V), (p.sa C a && Nat.ble ns.length 100) = true →
  ∀ A sc fenv env h₀ L d, Frm G A sc fenv env h₀ L d → ∀ {Z : ZP} fr own st ρ pu s x v Q, st.h[n]? = some (.obj C ns vs) → Inv G.R Z env h₀ L fr own st ρ pu s.heap → VR G.R ρ pu (.loc n) x → VR G.R ρ pu dv v →
    (∀ ρ' pu' s', Pre ρ ρ' → Sub pu pu' → Inv G.R Z env h₀ L fr own { st with h := setAt st.h n (.obj C (fput a dv ns vs).1 (fput a dv ns vs).2) } ρ' pu' s'.heap → Same s s' → Q () s') →
    wpAny (model G.prog G.w) A (setAttr x a v) Q noE s

section
variable {Z : ZP} {G : Glb} {p : Par} {A : Around} {sc : Scope} {fenv env : Env} {h₀ : Heap} {L : Addr} {d : Nat} {fr own : Led} {st st' : St} {ρ : List Addr} {pu : Led} {s : Shared} {ih : Ev}

theorem swapsWith_plain {x : Expr} {t : Option Expr} {l : Nat} (h : isComp x = false) : swapsWith x t l env = pure false := by
  (first | exact Mine.ns x | exact Mine.ft x | exact Mine.sn x | exact Mine.tf x | cases x) <;> first | rfl | (first | exact Mine.ns h | exact Mine.ft h | exact Mine.sn h | exact Mine.tf h | cases h)
theorem s_assign_name (S : SE G d ih) (Fm : Frm G A sc fenv fenv h₀ L d) (FF : FnF fenv L sc own) {x : Str} {xp pos : Pos} {value : Expr} {v : V} {Q : Flow → Shared → Prop} (hc : isComp value = false) (hm : mayStore sc x = true)
    (h1 : ih sc (.e value) st = some (.v v, st')) (I : Inv G.R Z0 fenv h₀ L fr own st ρ pu s.heap) (hQ : FP G.R fenv h₀ L fr own { st' with l := sput x v st'.l } ρ pu s .nx Q) :
    wpAny (model G.prog G.w) A (exec (.Assign [.Name x xp] value pos) fenv) Q noE s := by
  refine wpAny_Assign_Name (S _ _ _ _ _ h1 A fenv fenv h₀ L Fm fr own ρ pu s _ I ?_) (swapsWith_plain hc)
  intro v' ρ' pu' s' p1 q1 vr I' sm
  refine store_ok Fm FF hm vr I' fun own' s'' ho I'' sm' => ?_
  exact hQ ρ' pu' own' s'' p1 q1 ho I'' (sm.trans sm')
theorem s_assign_attr (T : SetOk G p) (S : SE G d ih) (Fm : Frm G A sc fenv fenv h₀ L d) {o : Expr} {a : Str} {ap pos : Pos} {value : Expr} {v : V} {n : Nat} {C : Addr} {ns : List Str} {vs : List V} {st₁ : St} {Q : Flow → Shared → Prop} (hc : isComp value = false) (hsa : (p.sa C a && Nat.ble ns.length 100) = true)
    (h1 : ih sc (.e value) st = some (.v v, st₁)) (h2 : ih sc (.e o) st₁ = some (.v (.loc n), st')) (h3 : st'.h[n]? = some (.obj C ns vs)) (I : Inv G.R Z0 fenv h₀ L fr own st ρ pu s.heap)
    (hQ : FP G.R fenv h₀ L fr own { st' with h := setAt st'.h n (.obj C (fput a v ns vs).1 (fput a v ns vs).2) } ρ pu s .nx Q) :
    wpAny (model G.prog G.w) A (exec (.Assign [.Attribute o a ap] value pos) fenv) Q noE s := by
  refine plainObj_wpAny_Assign_Attribute (S _ _ _ _ _ h1 A fenv fenv h₀ L Fm fr own ρ pu s _ I ?_) (swapsWith_plain hc)
  intro v' ρ' pu' s' p1 q1 vr I' sm
  refine S _ _ _ _ _ h2 A fenv fenv h₀ L Fm fr own ρ' pu' s' _ I' ?_
  intro x' ρ'' pu'' s'' p2 q2 vx I'' sm'
  refine T n C ns vs a v hsa A sc fenv fenv h₀ L d Fm fr own st' ρ'' pu'' s'' x' v' _ h3 I'' vx (vr.mono p2 q2) ?_
  intro ρ3 pu3 s3 p3 q3 I3 sm3
  exact hQ ρ3 pu3 own s3 ((p1.trans p2).trans p3) ((q1.trans q2).trans q3) (OwnR.refl _) I3 ((sm.trans sm').trans sm3)

/-! ## tuples of names -/
theorem swp_shape {ts vs : List Expr} {k k' : Nat} {q q' : Pos} : swappedStores [.Tuple ts k q] (.Tuple vs k' q') env =
    if (!(ts.length == 2 || ts.length == 3) || vs.length != ts.length || env.blockKind != .function) = true then pure none else
    if vs.any isStar = true then pure none else
    if ((ts.filterMap (nameK (fun x => env.kindOf x == some .local) ((ts.head?.map (·.pos.line)).getD 0))).length != ts.length || (ts.filterMap (nameK (fun x => env.kindOf x == some .local) ((ts.head?.map (·.pos.line)).getD 0))).eraseDups.length != (ts.filterMap (nameK (fun x => env.kindOf x == some .local) ((ts.head?.map (·.pos.line)).getD 0))).length) = true then pure none else
    if vs.all (foldedForSure 8) = true then pure none else
    if vs.all (constantsAlone 8) = true then (unsupported "assign.tuple-of-constant-expressions:order-of-the-stores" : Sem PUnit) >>= fun _ => pure (some (ts.filterMap (nameK (fun x => env.kindOf x == some .local) ((ts.head?.map (·.pos.line)).getD 0)))) else
    pure (some (ts.filterMap (nameK (fun x => env.kindOf x == some .local) ((ts.head?.map (·.pos.line)).getD 0)))) := by
  kernel_rfl
theorem swp_ok {ts vs : List Expr} {k k' : Nat} {q q' : Pos} {r : Option (List Str)} (hk : ∀ x, env.kindOf x = sc.names.lookup x) (hb : env.blockKind = .function) (e : swp sc ts vs = some r) :
    swappedStores [.Tuple ts k q] (.Tuple vs k' q') env = pure r := by
  refine swp_shape.trans ?_
  rw [hb, show (fun x => env.kindOf x == some .local) = (fun x => sc.names.lookup x == some .local) from funext fun x => by rw [hk]]
  unfold swp nameL at e
  generalize ts.filterMap (nameK (fun x => sc.names.lookup x == some .local) ((ts.head?.map (·.pos.line)).getD 0)) = nl at e ⊢
  by_cases h1 : (!(ts.length == 2 || ts.length == 3) || vs.length != ts.length) = true
  · rw [if_pos h1] at e
    obtain rfl := Option.some.inj e
    exact if_pos (by rw [h1]; rfl)
  · rw [if_neg h1] at e
    refine (if_neg (by rw [Bool.eq_false_iff.mpr h1]; exact Bool.false_ne_true)).trans ?_
    by_cases h2 : vs.any isStar = true
    · rw [if_pos h2] at e
      obtain rfl := Option.some.inj e
      exact if_pos h2
    · rw [if_neg h2] at e
      refine (if_neg h2).trans ?_
      by_cases h3 : (nl.length != ts.length || nl.eraseDups.length != nl.length) = true
      · rw [if_pos h3] at e
        obtain rfl := Option.some.inj e
        exact if_pos h3
      · rw [if_neg h3] at e
        refine (if_neg h3).trans ?_
        by_cases h4 : vs.all (foldedForSure 8) = true
        · rw [if_pos h4] at e
          obtain rfl := Option.some.inj e
          exact if_pos h4
        · rw [if_neg h4] at e
          refine (if_neg h4).trans ?_
          by_cases h5 : vs.all (constantsAlone 8) = true
          · rw [if_pos h5] at e; exact Mine.ns e
          · rw [if_neg h5] at e
            obtain rfl := Option.some.inj e
            exact if_neg h5
end
end Mine

end
section -- S6
namespace Mine
open PySem PySem.W PySem.Calls PyProof.Rows

section
variable {Z : ZP} {G : Glb} {p : Par} {A : Around} {sc : Scope} {fenv env : Env} {h₀ : Heap} {L : Addr} {d : Nat} {fr own : Led} {st st' : St} {ρ : List Addr} {pu : Led} {s : Shared} {ih : Ev}

theorem Inv.keeps {R : Rc} {h : Heap} (I : Inv R Z env h₀ L fr own st ρ pu h) : ∀ b o, h₀.get? b = some o → h.get? b = some o := by
  obtain ⟨m, mm, tb, chs, W⟩ := I
  exact W.F.keep
theorem VR.tup_inv {R : Rc} {l : List V} {v : Value} {h : Heap} (hv : VR R ρ pu (.tup l) v) (I : Inv R Z env h₀ L fr own st ρ pu h) (hk : R.K.In h₀) :
    ∃ a vs, v = .ref a ∧ IsTup h a vs.toArray ∧ VRs R ρ pu l vs := by
  cases hv with
  | tup hm hr =>
    obtain ⟨m, mm, tb, chs, W⟩ := I
    exact ⟨_, _, rfl, ⟨_, W.puMem hm, rfl, _, rfl⟩, hr⟩
  | tupK hm hr => exact ⟨_, _, rfl, ⟨_, I.keeps _ _ (hk _ _ hm), rfl, _, rfl⟩, hr⟩

theorem VRs.reverse {R : Rc} {ds : List V} {vs : List Value} (h : VRs R ρ pu ds vs) : VRs R ρ pu ds.reverse vs.reverse := by
  induction ds generalizing vs with
  | nil => obtain rfl := h.nil_inv; clear h; exact .nil
  | cons d ds ih =>
    have hq := h.cons_inv; clear h; obtain ⟨_, _, rfl, h, r⟩ := hq
    rw [List.reverse_cons, List.reverse_cons]
    exact (ih r).append (.cons h .nil)
theorem inOrder_ok (Fm : Frm G A sc fenv fenv h₀ L d) {α : Type} (f : α → Str) (T : α → Value → Sem Unit) (hT : ∀ a v (Q : Unit → Shared → Prop) s, wpAny (model G.prog G.w) A (storeName fenv (f a) v) Q noE s → wpAny (model G.prog G.w) A (T a v) Q noE s) :
    ∀ (as : List α) {ds : List V} {vals : List Value} {st : St} {l' : List (Str × V)} {own : Led} {s : Shared} {Q : Unit → Shared → Prop}, storeNames sc (as.map f) ds st.l = some l' → FnF fenv L sc own → VRs G.R ρ pu ds vals → Inv G.R Z0 fenv h₀ L fr own st ρ pu s.heap →
      (∀ own' s', OwnR own' own → Inv G.R Z0 fenv h₀ L fr own' { st with l := l' } ρ pu s'.heap → Same s s' → Q () s') → wpAny (model G.prog G.w) A (assignInOrder (as.map T) vals) Q noE s
  | [], ds, vals, st, l', own, s, Q, e, FF, hv, I, hQ => by
    cases hv with
    | nil =>
      (first | exact Mine.ns e | exact Mine.ft e | exact Mine.sn e | exact Mine.tf e | cases e)
      exact assignInOrder_nil (hQ own s (OwnR.refl _) I (Same.refl s))
    | cons _ _ => (first | exact Mine.ns e | exact Mine.ft e | exact Mine.sn e | exact Mine.tf e | cases e)
  | a :: as, ds, vals, st, l', own, s, Q, e, FF, hv, I, hQ => by
    cases hv with
    | nil => (first | exact Mine.ns e | exact Mine.ft e | exact Mine.sn e | exact Mine.tf e | cases e)
    | cons h r =>
      rw [List.map_cons] at e
      unfold storeNames at e
      revert e; refine zB fun _ e => ?_
      rename_i hm
      refine assignInOrder_cons (hT a _ _ s ?_)
      refine store_ok Fm FF hm h I fun own' s' ho I' sm => ?_
      refine inOrder_ok Fm f T hT as e (FF.own ho) r I' fun own'' s'' ho' I'' sm' => ?_
      exact hQ own'' s'' (ho'.trans ho) I'' (sm.trans sm')
theorem assignNames_ok {es : List Expr} {ds : List V} {l l' : List (Str × V)} (e : assignNames sc es ds l = some l') :
    ∃ ns : List (Str × Pos), es = ns.map (fun q => Expr.Name q.1 q.2) ∧ storeNames sc (ns.map (·.1)) ds l = some l' := by
  unfold assignNames at e
  revert e; refine zOLStr fun xs hx e => ?_
  obtain ⟨ns, rfl, rfl⟩ := nmsE_ok hx
  exact ⟨ns, rfl, e⟩
theorem assignEach_names (ns : List (Str × Pos)) : (assignEach (ns.map (fun q => Expr.Name q.1 q.2)) env).map (·.2) = ns.map (fun q => assign (.Name q.1 q.2) env) ∧ (assignEach (ns.map (fun q => Expr.Name q.1 q.2)) env).length = ns.length ∧ (assignEach (ns.map (fun q => Expr.Name q.1 q.2)) env).findIdx? (·.1) = none := by
  induction ns with
  | nil => exact ⟨rfl, rfl, rfl⟩
  | cons q r ih =>
    obtain ⟨a, b, c⟩ := ih
    have e : assignEach ((q :: r).map (fun q => Expr.Name q.1 q.2)) env = (false, assign (.Name q.1 q.2) env) :: assignEach (r.map (fun q => Expr.Name q.1 q.2)) env := rfl
    rw [e]
    refine ⟨?_, ?_, ?_⟩
    · rw [List.map_cons, a]; rfl
    · rw [List.length_cons, b]; rfl
    · rw [List.findIdx?_cons, c]; rfl
theorem storeNames_len : ∀ {ns : List Str} {ds : List V} {l l' : List (Str × V)}, storeNames sc ns ds l = some l' → ns.length = ds.length
  | [], [], _, _, _ => rfl
  | [], _ :: _, _, _, e => by (first | exact Mine.ns e | exact Mine.ft e | exact Mine.sn e | exact Mine.tf e | cases e)
  | _ :: _, [], _, _, e => by (first | exact Mine.ns e | exact Mine.ft e | exact Mine.sn e | exact Mine.tf e | cases e)
  | x :: r, v :: vs, l, l', e => by
    unfold storeNames at e
    revert e; refine zB fun _ e => ?_
    simp [storeNames_len e]
/-- a tuple of names takes a tuple -/
theorem assign_tuple_ok (Fm : Frm G A sc fenv fenv h₀ L d) (FF : FnF fenv L sc own) {es : List Expr} {k : Nat} {pos : Pos} {ds : List V} {v : Value} {l' : List (Str × V)} {Q : Unit → Shared → Prop} (e : assignNames sc es ds st.l = some l') (hv : VR G.R ρ pu (.tup ds) v) (I : Inv G.R Z0 fenv h₀ L fr own st ρ pu s.heap)
    (hQ : ∀ own' s', OwnR own' own → Inv G.R Z0 fenv h₀ L fr own' { st with l := l' } ρ pu s'.heap → Same s s' → Q () s') : wpAny (model G.prog G.w) A (assign (.Tuple es k pos) fenv v) Q noE s := by
  refine opq fun GG kk => ?_
  obtain ⟨ns, rfl, h⟩ := assignNames_ok e
  obtain ⟨a, vs, rfl, ht, hr⟩ := hv.tup_inv I Fm.kin
  obtain ⟨e1, e2, e3⟩ := assignEach_names (env := fenv) ns
  have hl := storeNames_len h
  rw [List.length_map] at hl
  obtain ⟨m, mm, tb, chs, W⟩ := I
  refine kk ?_
  refine unpackN_ W.F W.N ht Fm.hand ?_ e3 fun h' F' N' => ?_
  · rw [e2, hl, VRs.length hr]; simp
  · rw [e1]
    refine inOrder_ok (s := { s with heap := h' }) Fm (·.1) (fun q => assign (.Name q.1 q.2) fenv) (fun q v Q s h => assign_Name h) ns h FF hr ⟨m, mm, tb, chs, W.again F' N'⟩ fun own' s' ho I' sm => ?_
    exact hQ own' s' ho I' (Same.trans (Same.toks s h' s.toks) sm)
theorem s_assign_tuple (S : SE G d ih) (Fm : Frm G A sc fenv fenv h₀ L d) (FF : FnF fenv L sc own) {ts vs : List Expr} {k k' : Nat} {q q' pos : Pos} {ds : List V} {st₁ : St} {l' : List (Str × V)} {Q : Flow → Shared → Prop} {r : Option (List Str)}
    (h1 : ih sc (.e (.Tuple vs k' q')) st = some (.v (.tup ds), st₁)) (hw : swp sc ts vs = some r)
    (h2 : (match r with | none => assignNames sc ts ds st₁.l | some ns => storeNames sc ns.reverse ds.reverse st₁.l) = some l') (I : Inv G.R Z0 fenv h₀ L fr own st ρ pu s.heap) (hQ : FP G.R fenv h₀ L fr own { st₁ with l := l' } ρ pu s .nx Q) :
    wpAny (model G.prog G.w) A (exec (.Assign [.Tuple ts k q] (.Tuple vs k' q') pos) fenv) Q noE s := by
  have hb : fenv.blockKind = .function := by unfold Env.blockKind; rw [Fm.fk]; rfl
  have hsw := swp_ok (env := fenv) (k := k) (k' := k') (q := q) (q' := q') FF.kin hb hw
  cases r with
  | none =>
    refine Assign_Tuple (S _ _ _ _ _ h1 A fenv fenv h₀ L Fm fr own ρ pu s _ I ?_) rfl hsw
    intro v ρ' pu' s' p1 q1 vr I' sm
    refine assign_tuple_ok Fm FF h2 vr I' fun own' s'' ho I'' sm' => ?_
    exact hQ ρ' pu' own' s'' p1 q1 ho I'' (sm.trans sm')
  | some ns =>
    refine Assign_Tuple_swapped (S _ _ _ _ _ h1 A fenv fenv h₀ L Fm fr own ρ pu s _ I ?_) rfl hsw
    intro v ρ' pu' s' p1 q1 vr I' sm
    obtain ⟨a, vals, rfl, ht, hr⟩ := vr.tup_inv I' Fm.kin
    have hl := storeNames_len h2
    rw [List.length_reverse, List.length_reverse] at hl
    obtain ⟨m, mm, tb, chs, W⟩ := I'
    refine unpackItemsN_ W.F W.N ht Fm.hand (by rw [hl, VRs.length hr]; simp) fun h' F' N' => ?_
    refine inOrder_ok (s := { s' with heap := h' }) Fm id (fun n => bindName fenv n) (fun q v Q s h => bindName_ h) ns.reverse (by rw [List.map_id]; exact h2) FF hr.reverse ⟨m, mm, tb, chs, W.again F' N'⟩ fun own' s'' ho I'' sm' => ?_
    exact hQ ρ' pu' own' s'' p1 q1 ho I'' (sm.trans (Same.trans (Same.toks s' h' s'.toks) sm'))
/-- a tuple of names takes what a call gives -/
theorem s_unp (S : SE G d ih) (Fm : Frm G A sc fenv fenv h₀ L d) (FF : FnF fenv L sc own) {ts as : List Expr} {f : Expr} {ks : List Keyword} {k : Nat} {q ps pos : Pos} {ds : List V} {st₁ : St} {l' : List (Str × V)} {Q : Flow → Shared → Prop}
    (h1 : ih sc (.e (.Call f as ks ps)) st = some (.v (.tup ds), st₁)) (h2 : assignNames sc ts ds st₁.l = some l') (I : Inv G.R Z0 fenv h₀ L fr own st ρ pu s.heap) (hQ : FP G.R fenv h₀ L fr own { st₁ with l := l' } ρ pu s .nx Q) :
    wpAny (model G.prog G.w) A (exec (.Assign [.Tuple ts k q] (.Call f as ks ps) pos) fenv) Q noE s := by
  refine Assign_Tuple (S _ _ _ _ _ h1 A fenv fenv h₀ L Fm fr own ρ pu s _ I ?_) rfl rfl
  intro v ρ' pu' s' p1 q1 vr I' sm
  refine assign_tuple_ok Fm FF h2 vr I' fun own' s'' ho I'' sm' => ?_
  exact hQ ρ' pu' own' s'' p1 q1 ho I'' (sm.trans sm')
end
end Mine

end
section -- S7
namespace Mine
open PySem PySem.W PySem.Calls PyProof.Rows

/-- what an iterator goes over -/
noncomputable def ItS (G : Glb) (h₀ : Heap) (ρ : List Addr) (pu : Led) (I : Addr) (xs : List V) (S : Nat → Heap → Prop) : Prop :=
  ∃ (fp : List Addr) (P : Nat → Value → Prop), (∀ A : Around, A.handled = none → Walks G.prog G.w A I fp [I] xs.length P S) ∧
    (∀ b ∈ fp, b = I ∨ (∃ o, (b, o) ∈ pu) ∨ (∃ o, h₀.get? b = some o)) ∧ (∀ i v, P i v → ∃ x, xs[i]? = some x ∧ VR G.R ρ pu x v) ∧
    (∀ i h, S i h → ∃ o, h.get? I = some o ∧ ((o.cls = .type "list_iterator" ∨ o.cls = .type "tuple_iterator") ∨ ∀ l, V.tup l ∉ xs))

section
variable {Z : ZP} {G : Glb} {p : Par} {A : Around} {sc : Scope} {fenv env : Env} {h₀ : Heap} {L : Addr} {d : Nat} {fr own : Led} {st st' : St} {ρ ρ' : List Addr} {pu pu' : Led} {s : Shared} {ih : Ev}

theorem ItS.mono {I : Addr} {xs : List V} {S : Nat → Heap → Prop} (h : ItS G h₀ ρ pu I xs S) (h1 : Pre ρ ρ') (h2 : Sub pu pu') : ItS G h₀ ρ' pu' I xs S := by
  obtain ⟨fp, P, a, b, c, e⟩ := h
  refine ⟨fp, P, a, fun x hx => ?_, fun i v hp => ?_, e⟩
  · rcases b x hx with q | ⟨o, q⟩ | q
    · exact .inl q
    · exact .inr (.inl ⟨o, h2 _ q⟩)
    · exact .inr (.inr q)
  · obtain ⟨x, q, r⟩ := c i v hp
    exact ⟨x, q, r.mono h1 h2⟩

section
variable {R : Rc} {h h' : Heap} {m mm : Str → Option Value} {tb : Led} {chs : List Led} {I : Addr} {o o' : Obj}
theorem InvW.frCons (W : InvW R Z env h₀ L fr own st ρ pu h m mm tb chs) (F' : Fr h₀ L h' m) (N' : News h₀ L h' ((I, o) :: LED fr own tb chs pu)) (fs : I ∉ (LED fr own tb chs pu).map (·.1)) :
    InvW R Z env h₀ L ((I, o) :: fr) own st ρ pu h' m mm tb chs := by
  refine ⟨F', W.z, N', ?_, W.ns, W.nm, W.ms, W.tb⟩
  show (((I, o) :: LED fr own tb chs pu).map (·.1)).Nodup
  rw [List.map_cons, List.nodup_cons]
  exact ⟨fs, W.nd⟩
theorem InvW.frDrop (W : InvW R Z env h₀ L ((I, o) :: fr) own st ρ pu h m mm tb chs) : InvW R Z env h₀ L fr own st ρ pu h m mm tb chs := by
  refine ⟨W.F, W.z, fun q hq => W.N q (List.mem_cons_of_mem _ hq), ?_, W.ns, W.nm, W.ms, W.tb⟩
  have := W.nd
  rw [show LED ((I, o) :: fr) own tb chs pu = (I, o) :: LED fr own tb chs pu from rfl, List.map_cons, List.nodup_cons] at this
  exact this.2
theorem InvW.frOff (W : InvW R Z env h₀ L ((I, o) :: fr) own st ρ pu h m mm tb chs) : ∀ q ∈ LED fr own tb chs pu, q.1 ≠ I := by
  intro q hq e
  have := W.nd
  rw [show LED ((I, o) :: fr) own tb chs pu = (I, o) :: LED fr own tb chs pu from rfl, List.map_cons, List.nodup_cons] at this
  have hz : q.1 ∈ (LED fr own tb chs pu).map (·.1) := List.mem_map_of_mem hq
  rw [e] at hz
  exact this.1 hz
/-- the iterator moved -/
theorem InvW.frSet (W : InvW R Z env h₀ L ((I, o) :: fr) own st ρ pu h m mm tb chs) (hk : ∀ b ob, b ∉ [I] → h.get? b = some ob → h'.get? b = some ob) (hI : h'.get? I = some o') :
    InvW R Z env h₀ L ((I, o') :: fr) own st ρ pu h' m mm tb chs := by
  have z := W.N (I, o) (List.mem_cons_self ..)
  have F' : Fr h₀ L h' m := LCg.fr_but W.F hk (Ne.symm z.2.1) z.2.2
  refine ⟨F', W.z, ?_, ?_, W.ns, W.nm, W.ms, W.tb⟩
  · intro q hq
    rcases List.mem_cons.mp hq with rfl | hq
    · exact ⟨hI, z.2⟩
    · have y := W.N q (List.mem_cons_of_mem _ hq)
      exact ⟨hk _ _ (by simpa using W.frOff q hq) y.1, y.2⟩
  · exact W.nd
/-- the iterator is used up -/
theorem InvW.frEnd (W : InvW R Z env h₀ L ((I, o) :: fr) own st ρ pu h m mm tb chs) (hk : ∀ b ob, b ∉ [I] → h.get? b = some ob → h'.get? b = some ob) :
    InvW R Z env h₀ L fr own st ρ pu h' m mm tb chs := by
  have z := W.N (I, o) (List.mem_cons_self ..)
  have F' : Fr h₀ L h' m := LCg.fr_but W.F hk (Ne.symm z.2.1) z.2.2
  refine W.frDrop.again F' ?_
  intro q hq
  have y := W.N q (List.mem_cons_of_mem _ hq)
  exact ⟨hk _ _ (by simpa using W.frOff q hq) y.1, y.2⟩
end
/-- an object of the mini heap goes to those that nothing will change -/
theorem InvW.freeze {R : Rc} {h : Heap} {m mm : Str → Option Value} {tb : Led} {chs : List Led} (ok : RcOk R) (W : InvW R Z env h₀ L fr own st ρ pu h m mm tb chs) {n : Nat} {mo : MO} {c : Led} (_e : st.h[n]? = some mo) (ec : chs[n]? = some c)
    (hset : MORs R ρ pu (st.h.set n .dead) ρ (chs.set n [])) : InvW R Z env h₀ L fr own ⟨st.l, st.h.set n .dead⟩ ρ (c ++ pu) h m mm tb (chs.set n []) := by
  obtain ⟨pre, post, p1, p2⟩ := flat_set_mem (c' := []) ec
  have sub : Sub pu (c ++ pu) := fun q hq => List.mem_append_right _ hq
  have pm : List.Perm (LED fr own tb (chs.set n []) (c ++ pu)) (LED fr own tb chs pu) := by
    unfold LED
    rw [p1, p2]
    refine List.Perm.append_left _ (List.Perm.append_left _ (List.Perm.append_left _ ?_))
    simp only [List.nil_append, List.append_assoc]
    refine List.Perm.append_left _ ?_
    rw [← List.append_assoc, ← List.append_assoc]
    exact List.Perm.append_right _ List.perm_append_comm
  refine ⟨W.F, W.z, fun q hq => W.N q (pm.mem_iff.mp hq), ?_, W.ns, W.nm.mono (Pre.refl _) sub, hset.mono ok (Pre.refl _) sub, ok.TBm sub W.tb⟩
  rw [(pm.map (·.1)).nodup_iff]
  exact W.nd
theorem Inv.frDrop {R : Rc} {h : Heap} {I : Addr} {o : Obj} (J : Inv R Z env h₀ L ((I, o) :: fr) own st ρ pu h) : Inv R Z env h₀ L fr own st ρ pu h := by
  obtain ⟨m, mm, tb, chs, W⟩ := J
  exact ⟨m, mm, tb, chs, W.frDrop⟩
theorem Inv.inPuH {R : Rc} {h : Heap} (I : Inv R Z env h₀ L fr own st ρ pu h) : ∀ q ∈ pu, h.get? q.1 = some q.2 := by
  obtain ⟨m, mm, tb, chs, W⟩ := I
  exact fun q hq => W.puMem hq
theorem Inv.frGet {R : Rc} {h : Heap} {I : Addr} {o : Obj} (J : Inv R Z env h₀ L ((I, o) :: fr) own st ρ pu h) : h.get? I = some o := by
  obtain ⟨m, mm, tb, chs, W⟩ := J
  exact (W.N (I, o) (List.mem_cons_self ..)).1

/-- the next one -/
theorem next_ok {I : Addr} {o : Obj} {xs : List V} {S : Nat → Heap → Prop} {i : Nat} {E : Value → Shared → Prop} {Q : Option Value → Shared → Prop} (hh : A.handled = none) (T : ItS G h₀ ρ pu I xs S) (hs : S i s.heap) (hi : i ≤ xs.length) (J : Inv G.R Z env h₀ L ((I, o) :: fr) own st ρ pu s.heap)
    (item : ∀ x v o' s', xs[i]? = some x → VR G.R ρ pu x v → S (i + 1) s'.heap → Inv G.R Z env h₀ L ((I, o') :: fr) own st ρ pu s'.heap → Same s s' → Q (some v) s')
    (done : ∀ s', i = xs.length → Inv G.R Z env h₀ L fr own st ρ pu s'.heap → Same s s' → Q none s') : wpAny (model G.prog G.w) A (pyNext (.ref I)) Q E s := by
  refine opq fun GG kk => ?_
  obtain ⟨fp, P, a, b, c, e⟩ := T
  obtain ⟨m, mm, tb, chs, W⟩ := J
  have Wk := a A hh
  refine kk ?_
  by_cases hlt : i < xs.length
  · refine Wk.item i s Q E hlt hs fun v h' tk hP hS hk => ?_
    obtain ⟨x, hx, hv⟩ := c i v hP
    obtain ⟨o', ho', _⟩ := e _ _ hS
    exact item x v o' { s with heap := h', toks := tk } hx hv hS ⟨m, mm, tb, chs, W.frSet hk ho'⟩ ⟨h', tk, rfl⟩
  · have hin : i = xs.length := by lia
    subst hin
    refine Wk.done s Q E hs fun h' tk hk => ?_
    exact done { s with heap := h', toks := tk } rfl ⟨m, mm, tb, chs, W.frEnd hk⟩ ⟨h', tk, rfl⟩
/-- a body leaves the iterator -/
theorem ItS.stay {env' : Env} {own' : Led} {st₂ : St} {I : Addr} {o : Obj} {xs : List V} {S : Nat → Heap → Prop} {i : Nat} {h h' : Heap} (T : ItS G h₀ ρ pu I xs S) (hs : S i h) (J : Inv G.R Z env h₀ L ((I, o) :: fr) own st ρ pu h) (h2 : Sub pu pu')
    (J' : Inv G.R Z env' h₀ L ((I, o) :: fr) own' st₂ ρ' pu' h') : S i h' := by
  obtain ⟨fp, P, a, b, c, e⟩ := T
  refine (a {} rfl).frame i h h' hs fun x hx ob hob => ?_
  rcases b x hx with rfl | ⟨o₂, q⟩ | ⟨o₂, q⟩
  · rw [J.frGet] at hob; (first | exact Mine.ns hob | exact Mine.ft hob | exact Mine.sn hob | exact Mine.tf hob | cases hob); exact J'.frGet
  · rw [J.inPuH _ q] at hob; (first | exact Mine.ns hob | exact Mine.ft hob | exact Mine.sn hob | exact Mine.tf hob | cases hob); exact J'.inPuH _ (h2 _ q)
  · rw [J.keeps _ _ q] at hob; (first | exact Mine.ns hob | exact Mine.ft hob | exact Mine.sn hob | exact Mine.tf hob | cases hob); exact J'.keeps _ _ q


theorem rngL_get : ∀ (n : Nat) (a : Int) (i : Nat), (rngL n a)[i]? = if i < n then some (.int (a + i)) else none
  | 0, a, i => by simp [rngL]
  | n + 1, a, 0 => by simp [rngL]
  | n + 1, a, i + 1 => by
    show (rngL n (a + 1))[i]? = _
    rw [rngL_get n (a + 1) i]
    by_cases h : i < n
    · rw [if_pos h, if_pos (by lia)]
      congr 2
      push_cast; lia
    · rw [if_neg h, if_neg (by lia)]
theorem rngL_len : ∀ (n : Nat) (a : Int), (rngL n a).length = n
  | 0, _ => rfl
  | n + 1, a => by show (rngL n (a + 1)).length + 1 = n + 1; rw [rngL_len n]
theorem rngL_tup : ∀ (n : Nat) (a : Int) (l : List V), V.tup l ∉ rngL n a
  | 0, _, _ => by simp [rngL]
  | n + 1, a, l => by
    intro h
    rcases List.mem_cons.mp h with h | h
    · (first | exact Mine.ns h | exact Mine.ft h | exact Mine.sn h | exact Mine.tf h | cases h)
    · exact rngL_tup n (a + 1) l h
set_option tactic.hygienic true in
theorem small_bound {a : Int} (h : small a = true) : -(2 ^ 62) ≤ a ∧ a < 2 ^ 62 := by
  unfold small at h
  (first | (revert h; refine mb (fun _ h => ?_) (fun _ h => ?_)) | split at h)
  · rename_i n
    have := Nat.blt_eq.mp h
    have e : Int.ofNat n = (n : Int) := rfl
    rw [e]; constructor <;> lia
  · rename_i n
    have := Nat.blt_eq.mp h
    constructor
    · have e : Int.negSucc n = -((n : Int) + 1) := by lia
      rw [e]; lia
    · lia
theorem VRs.get {R : Rc} {xs : List V} {vs : List Value} (h : VRs R ρ pu xs vs) : ∀ (i : Nat) {v : Value}, vs[i]? = some v → ∃ x, xs[i]? = some x ∧ VR R ρ pu x v := by
  induction xs generalizing vs with
  | nil => obtain rfl := h.nil_inv; clear h; intro i v e; simp at e
  | cons x r ih =>
    obtain ⟨_, _, rfl, h1, h2⟩ := h.cons_inv; clear h
    intro i v e
    cases i with
    | zero => (first | exact Mine.ns e | exact Mine.ft e | exact Mine.sn e | exact Mine.tf e | cases e); exact ⟨x, rfl, h1⟩
    | succ i => exact ih h2 i e
/-- a new iterator over a thing of the ledger -/
theorem iter_new {R : Rc} {Q : Value → Shared → Prop} {ob : Obj} (I : Inv R Z env h₀ L fr own st ρ pu s.heap)
    (hQ : Inv R Z env h₀ L ((s.heap.objs.size, ob) :: fr) own st ρ pu (s.heap.push ob) → Same s { s with heap := s.heap.push ob } → Q (.ref s.heap.objs.size) { s with heap := s.heap.push ob }) (hd : ob.isFreed = false) : Q (.ref s.heap.objs.size) { s with heap := s.heap.push ob } := by
  obtain ⟨m, mm, tb, chs, W⟩ := I
  refine hQ ⟨m, mm, tb, chs, W.frCons (W.F.push _) (News.push W.F W.N _ hd) (fresh_lt (News.lt W.N))⟩ ⟨_, s.toks, rfl⟩

set_option tactic.hygienic true in
theorem iter_ok (P : ParOk G p) (Fm : Frm G A sc fenv env h₀ L d) {iv : V} {x : Value} {xs : List V} {h' : List MO} {Q : Value → Shared → Prop} {E : Value → Shared → Prop} (e : items st.h iv = some (xs, h')) (hv : VR G.R ρ pu iv x) (I : Inv G.R Z env h₀ L fr own st ρ pu s.heap)
    (hQ : ∀ I₁ o pu' S s', Sub pu pu' → ItS G h₀ ρ pu' I₁ xs S → S 0 s'.heap → xs.length ≤ 10000 → Inv G.R Z env h₀ L ((I₁, o) :: fr) own ⟨st.l, h'⟩ ρ pu' s'.heap → Same s s' → Q (.ref I₁) s') : wpAny (model G.prog G.w) A (pyIter x) Q E s := by
  refine opq fun GG kk => ?_
  have key_list : ∀ {a : Addr} {vs : List Value} {n : Nat} {xs : List V} {st₁ : St} {pu₁ : Led}, (a, listOf vs.toArray n) ∈ pu₁ → VRs G.R ρ pu₁ xs vs → Inv G.R Z env h₀ L fr own st₁ ρ pu₁ s.heap → Sub pu pu₁ → xs.length ≤ 10000 →
      (∀ I₁ o pu' S s', Sub pu pu' → ItS G h₀ ρ pu' I₁ xs S → S 0 s'.heap → xs.length ≤ 10000 → Inv G.R Z env h₀ L ((I₁, o) :: fr) own st₁ ρ pu' s'.heap → Same s s' → Q (.ref I₁) s') → wpAny (model G.prog G.w) A (pyIter (.ref a)) Q E s := by
    intro a vs n xs st₁ pu₁ hm hr J sub hsz hQ
    have hl : s.heap.IsList a vs.toArray := ⟨_, J.inPu _ hm, rfl, _, rfl⟩
    have hne : a ≠ s.heap.objs.size := Nat.ne_of_lt (Heap.lt_size (J.inPu _ hm))
    refine wpAny_pyIter_list hl (iter_new J (fun J' sm => ?_) rfl)
    refine hQ _ _ pu₁ (fun i h => h.IsListIter s.heap.objs.size a i ∧ h.IsList a vs.toArray) _ sub ⟨[s.heap.objs.size, a], fun i v => vs.toArray[i]? = some v, fun A hh => ?_, fun b hb => ?_, fun i v hi => ?_, fun i h hs => ?_⟩ ⟨⟨_, Heap.get?_push_size _ rfl, rfl, rfl⟩, hl.at fun o e => Heap.get?_push_of_some _ e⟩ hsz J' sm
    · have := Walks.list (prog := G.prog) (w := G.w) (A := A) hh s.heap.objs.size a hne vs.toArray
      rw [show vs.toArray.size = xs.length by rw [VRs.length hr]; simp] at this
      exact this
    · rcases List.mem_cons.mp hb with rfl | hb
      · exact .inl rfl
      · rw [List.mem_singleton.mp hb]; exact .inr (.inl ⟨_, hm⟩)
    · exact hr.get i (by simpa using hi)
    · obtain ⟨o, ho, hc, _⟩ := hs.1
      exact ⟨o, ho, .inl (.inl hc)⟩
  unfold items at e
  (first | (revert e; refine mb (fun _ e => ?_) (fun _ e => ?_)) | split at e)
  · rename_i n hn0
    refine kk ?_
    obtain rfl := locOf_iff hn0
    obtain ⟨l, hl, e1⟩ := bind2 e
    clear e
    have hn := lstAt_iff hl
    obtain ⟨l', hl', e2⟩ := bind2 e1
    clear e1
    obtain ⟨rfl, hsz⟩ := okL_iff hl'
    obtain ⟨rfl, rfl⟩ := oPi e2
    obtain ⟨_, rfl, hρ⟩ := hv.loc_inv; clear hv
    obtain ⟨m, mm, tb, chs, W⟩ := I
    obtain ⟨a, c, h1, h2, h3, h4⟩ := W.ms.at hn
    rw [hρ] at h1
    have h1' := (Option.some.inj h1).symm
    subst h1'
    obtain ⟨_, _, rfl, hr⟩ := h3.lst_inv; clear h3
    rename_i vs k
    have W' := W.freeze P.ok hn h2 (h4 .dead [] .dead)
    have sub : Sub pu ([(a, listOf vs.toArray k)] ++ pu) := fun q hq => List.mem_append_right _ hq
    exact key_list (List.mem_append_left _ (List.mem_singleton.mpr rfl)) (hr.mono (Pre.refl _) sub) ⟨m, mm, tb, _, W'⟩ sub hsz hQ
  · obtain ⟨l, hl, e⟩ := bind2 e
    obtain ⟨rfl, rfl⟩ := oPi e
    unfold itemsO at hl
    (first | (revert hl; refine mb (fun _ hl => ?_) (fun _ hl => ?_)) | split at hl)
    · rename_i a b hr0
      refine kk ?_
      obtain rfl := rngOf_iff hr0
      obtain ⟨hsm, rfl⟩ := bif_some hl
      replace hsm := and3 hsm
      obtain ⟨⟨h1, h2⟩, h3⟩ := hsm
      have h3 := Nat.le_of_ble_eq_true h3
      obtain ⟨_, _, _, _, rfl, hm⟩ := hv.rng_inv; clear hv
      have hr := I.inPu _ hm
      obtain ⟨q1, q2⟩ := small_bound h1
      obtain ⟨q3, q4⟩ := small_bound h2
      refine wpAny_pyIter_range hr (small_one q1 q2 q3 q4) (iter_new I (fun J' sm => ?_) rfl)
      refine hQ _ _ pu (fun i h => IsRangeIter h s.heap.objs.size (a + (i : Nat) * 1) (((b - a).toNat : Int) - (i : Nat)) 1) _ (Sub.refl _) ⟨[s.heap.objs.size], fun i v => i < (b - a).toNat ∧ ∃ t, v = .int (a + i * 1) t, fun A hh => ?_, fun b hb => ?_, fun i v hi => ?_, fun i h hs => ?_⟩ ?_ (by rw [rngL_len]; exact h3) J' sm
      · rw [rngL_len]
        exact (Walks.range hh _ a 1 (b - a).toNat).bound
      · exact .inl (List.mem_singleton.mp hb)
      · obtain ⟨hi, t, rfl⟩ := hi
        exact ⟨.int (a + i), by rw [rngL_get, if_pos hi], by rw [Int.mul_one]; exact .int _ _⟩
      · exact ⟨_, hs, .inr (rngL_tup _ _)⟩
      · show IsRangeIter _ _ _ _ _
        rw [rangeSize_nat]
        simpa using Heap.get?_push_size _ rfl
    · (first | (revert hl; refine mb (fun _ hl => ?_) (fun _ hl => ?_)) | split at hl)
      · rename_i q hq
        refine kk ?_
        obtain rfl := lstO_iff hq
        obtain ⟨rfl, hsz⟩ := okL_iff hl
        obtain ⟨_, _, _, rfl, hm, hr⟩ := hv.lst_inv; clear hv
        exact key_list hm hr I (Sub.refl _) hsz hQ
      · (first | (revert hl; refine mb (fun _ hl => ?_) (fun _ hl => ?_)) | split at hl)
        · rename_i q hq
          refine kk ?_
          obtain rfl := tupOf_iff hq
          obtain ⟨rfl, hsz⟩ := okL_iff hl
          obtain ⟨a, vs, rfl, ht, hr⟩ := hv.tup_inv I Fm.kin
          have hlt : a ≠ s.heap.objs.size := by obtain ⟨o, ho, _⟩ := ht; exact Nat.ne_of_lt (Heap.lt_size ho)
          have hput : (∃ o, (a, o) ∈ pu) ∨ (∃ o, h₀.get? a = some o) := by
            cases hv with
            | tup hm _ => exact .inl ⟨_, hm⟩
            | tupK hm _ => exact .inr ⟨_, Fm.kin _ _ hm⟩
          refine iter_tuple ht (iter_new I (fun J' sm => ?_) rfl)
          refine hQ _ _ pu (fun i h => h.IsTupleIter s.heap.objs.size a i ∧ h.IsTuple a vs.toArray) _ (Sub.refl _) ⟨[s.heap.objs.size, a], fun i v => vs.toArray[i]? = some v, fun A hh => ?_, fun b hb => ?_, fun i v hi => ?_, fun i h hs => ?_⟩ ⟨⟨_, Heap.get?_push_size _ rfl, rfl, rfl⟩, ht.push _⟩ hsz J' sm
          · have := Walks.tuple (prog := G.prog) (w := G.w) (A := A) hh s.heap.objs.size a hlt vs.toArray
            rw [show vs.toArray.size = _ from (by simp : vs.toArray.size = vs.length).trans (VRs.length hr).symm] at this
            exact this
          · rcases List.mem_cons.mp hb with rfl | hb
            · exact .inl rfl
            · rw [List.mem_singleton.mp hb]; exact .inr hput
          · exact hr.get i (by simpa using hi)
          · obtain ⟨o, ho, hc, _⟩ := hs.1
            exact ⟨o, ho, .inl (.inr hc)⟩
        · refine kk ?_
          obtain ⟨z, hz, hl⟩ := bind2 hl
          obtain rfl := strO_iff hz
          obtain ⟨rfl, hsz⟩ := okL_iff hl
          obtain ⟨t, rfl⟩ := hv.str_inv; clear hv
          have hlen : (z.cps.toList.map fun c => V.str ⟨#[c]⟩).length = z.cps.size := by simp
          have item : ∀ i v, SignAt z i v → ∃ x, (z.cps.toList.map fun c => V.str ⟨#[c]⟩)[i]? = some x ∧ VR G.R ρ pu x v := by
            rintro i v ⟨c, u, hc, rfl⟩
            exact ⟨.str ⟨#[c]⟩, by simp [hc], .str _ _⟩
          have notup : ∀ l, V.tup l ∉ (z.cps.toList.map fun c => V.str ⟨#[c]⟩) := by simp
          cases ha : z.cps.all (· < 128)
          · refine wpAny_pyIter_wide ha (iter_new I (fun J' sm => ?_) rfl)
            refine hQ _ _ pu (fun i h => h.IsStrIter s.heap.objs.size "str_iterator" z t i) _ (Sub.refl _) ⟨[s.heap.objs.size], SignAt z, fun A hh => hlen ▸ Walks.strWide hh _ z t, fun b hb => .inl (List.mem_singleton.mp hb), item, fun i h hs => ?_⟩ ⟨_, Heap.get?_push_size _ rfl, rfl, rfl⟩ hsz J' sm
            obtain ⟨o, ho, _⟩ := hs
            exact ⟨o, ho, .inr notup⟩
          · refine wpAny_pyIter_ascii ha (iter_new I (fun J' sm => ?_) rfl)
            refine hQ _ _ pu (fun i h => h.IsStrIter s.heap.objs.size "str_ascii_iterator" z t i) _ (Sub.refl _) ⟨[s.heap.objs.size], SignAt z, fun A hh => hlen ▸ Walks.strAscii hh _ z t, fun b hb => .inl (List.mem_singleton.mp hb), item, fun i h hs => ?_⟩ ⟨_, Heap.get?_push_size _ rfl, rfl, rfl⟩ hsz J' sm
            obtain ⟨o, ho, _⟩ := hs
            exact ⟨o, ho, .inr notup⟩
end
end Mine

end
section -- S8
namespace Mine
open PySem PySem.W PySem.Calls PyProof.Rows

noncomputable def SFo (G : Glb) (d : Nat) (ih : Ev) : Prop := ∀ sc x px vs b st fl st', ih sc (.f x px vs b) st = some (.f fl, st') →
  ∀ A fenv h₀ L, Frm G A sc fenv fenv h₀ L d → ∀ fr own ρ pu s (R : Result → Shared → Prop) I o xs i S, FnF fenv L sc own → xs.drop i = vs → i ≤ xs.length → ItS G h₀ ρ pu I xs S → S i s.heap →
    Inv G.R Z0 fenv h₀ L ((I, o) :: fr) own st ρ pu s.heap → FP G.R fenv h₀ L fr own st' ρ pu s fl (fun f s' => R (.ok f) s') →
    codeAny (model G.prog G.w) A (.forLoop (.Name x px) (.ref I) b [] fenv) R s
/-- no reader takes a set display -/
noncomputable def NoSet (ih : Ev) : Prop := ∀ sc es k q st, ih sc (.e (.Set es k q)) st = none

section
variable {Z : ZP} {G : Glb} {p : Par} {A : Around} {sc : Scope} {fenv env : Env} {h₀ : Heap} {L : Addr} {d : Nat} {fr own : Led} {st st' : St} {ρ ρ' : List Addr} {pu pu' : Led} {s : Shared} {ih : Ev}

theorem folded_plain {x : Expr} (h : ∀ es k q, x ≠ .Set es k q) (v : Value) : foldedSetIterable x env v = pure v := by
  (first | exact Mine.ns x | exact Mine.ft x | exact Mine.sn x | exact Mine.tf x | cases x) <;> first | rfl | exact absurd rfl (h _ _ _)

set_option tactic.hygienic true in
theorem f_turn (B : SSt G d ih) (W : SFo G d ih) (Fm : Frm G A sc fenv fenv h₀ L d) (FF : FnF fenv L sc own) {x : Str} {px : Pos} {vs : List V} {b : List Stmt} {fl : Fl} {R : Result → Shared → Prop} {I : Addr} {o : Obj} {xs : List V} {i : Nat} {S : Nat → Heap → Prop}
    (h2 : (match vs with
      | [] => some (Out.f .nx, st)
      | v :: vs => (match mayStore sc x with
        | true => (match asF (ih sc (.s b) { st with l := sput x v st.l }) with
          | some (.nx, st) => ih sc (.f x px vs b) st
          | some (.ret v, st) => some (.f (.ret v), st)
          | none => none)
        | false => none)) = some (.f fl, st'))
    (hd : xs.drop i = vs) (hi : i ≤ xs.length) (T : ItS G h₀ ρ pu I xs S) (hS : S i s.heap) (J : Inv G.R Z0 fenv h₀ L ((I, o) :: fr) own st ρ pu s.heap) (hQ : FP G.R fenv h₀ L fr own st' ρ pu s fl (fun f s' => R (.ok f) s')) :
    codeAny (model G.prog G.w) A (.forLoop (.Name x px) (.ref I) b [] fenv) R s := by
  refine codeAny_of_tree ?_
  rw [show A.under (.forLoop (.Name x px) (.ref I) b [] fenv) = A from Around.under_of_weight rfl]
  show wpAny _ A ((forTurn (.Name x px) (.ref I) b [] fenv).onRaise (fun x => do noteFrame x fenv; theTreesLotGoes x)) _ _ s
  refine wpAny_noted (wpAny_mono (E := noE) ?_ (fun _ _ x => x) fun _ _ x => x.elim)
  simp only [forTurn]
  refine wpAny_bind (wpAny_standAt (wpAny_bind (wpAny_onRaise (wpAny_mono (E := noE) ?_ (fun _ _ x => x) fun _ _ x => x.elim))))
  refine next_ok Fm.hand T hS hi J ?_ ?_
  · intro y v o' s' hy hv hS' J' sm
    refine wpAny_bind (wpAny_of_eq (a := ()) rfl ?_)
    have hlt : i < xs.length := (List.getElem?_eq_some_iff.mp hy).1
    have hdrop : xs.drop i = y :: xs.drop (i + 1) := by
      rw [List.drop_eq_getElem_cons hlt]
      congr 1
      exact (List.getElem?_eq_some_iff.mp hy).2
    rw [hdrop] at hd
    subst hd
    simp only [] at h2
    revert h2; refine zB fun _ h2 => ?_
    rename_i hm
    refine wpAny_bind (assign_Name (store_ok Fm FF hm hv J' fun own' s'' ho J'' sm' => ?_))
    (first | (revert h2; refine mb (fun _ h2 => ?_) (fun _ h2 => ?_)) | split at h2)
    · rename_i st₂ hb
      refine wpAny_bind (B _ _ _ _ _ (asF_some hb) A fenv h₀ L Fm ((I, o') :: fr) own' ρ pu s'' _ (FF.own ho) J'' ?_)
      intro ρ3 pu3 own3 s3 p3 q3 o3 J3 sm3
      have hS3 : S (i + 1) s3.heap := T.stay (T.stay hS' J' (Sub.refl _) J') (J := J') q3 J3
      exact wpAny_pure ⟨rfl, W _ _ _ _ _ _ _ _ h2 A fenv h₀ L Fm fr own3 ρ3 pu3 s3 R I o' xs (i + 1) S (FF.own (o3.trans ho)) rfl hlt (T.mono p3 q3) hS3 J3 (hQ.shift p3 q3 (o3.trans ho) ((sm.trans sm').trans sm3))⟩
    · rename_i v' st₂ hb
      (first | exact Mine.ns h2 | exact Mine.ft h2 | exact Mine.sn h2 | exact Mine.tf h2 | cases h2)
      refine wpAny_bind (B _ _ _ _ _ (asF_some hb) A fenv h₀ L Fm ((I, o') :: fr) own' ρ pu s'' _ (FF.own ho) J'' ?_)
      intro v3 ρ3 pu3 own3 s3 p3 q3 o3 vr J3 sm3
      exact wpAny_pure (hQ v3 ρ3 pu3 own3 s3 p3 q3 (o3.trans ho) vr J3.frDrop ((sm.trans sm').trans sm3))
    · (first | exact Mine.ns h2 | exact Mine.ft h2 | exact Mine.sn h2 | exact Mine.tf h2 | cases h2)
  · intro s' hin J' sm
    rw [hin, List.drop_length] at hd
    subst hd
    (first | exact Mine.ns h2 | exact Mine.ft h2 | exact Mine.sn h2 | exact Mine.tf h2 | cases h2)
    exact wpAny_pure ⟨rfl, codeAny_block (wpAny_execs_nil (hQ ρ pu own s' (Pre.refl _) (Sub.refl _) (OwnR.refl _) J' sm))⟩
theorem s_for (P : ParOk G p) (S : SE G d ih) (NT : NoSet ih) (W : SFo G d ih) (Fm : Frm G A sc fenv fenv h₀ L d) (FF : FnF fenv L sc own) {x : Str} {px pos : Pos} {it : Expr} {b : List Stmt} {iv : V} {xs : List V} {h' : List MO} {st₁ : St} {fl : Fl} {Q : Flow → Shared → Prop}
    (h1 : ih sc (.e it) st = some (.v iv, st₁)) (h2 : items st₁.h iv = some (xs, h')) (h3 : ih sc (.f x px xs b) ⟨st₁.l, h'⟩ = some (.f fl, st')) (I : Inv G.R Z0 fenv h₀ L fr own st ρ pu s.heap) (hQ : FP G.R fenv h₀ L fr own st' ρ pu s fl Q) :
    wpAny (model G.prog G.w) A (exec (.For (.Name x px) it b [] pos) fenv) Q noE s := by
  refine wpAny_For (S _ _ _ _ _ h1 A fenv fenv h₀ L Fm fr own ρ pu s _ I ?_) (folded_plain ?_)
  · intro v ρ' pu' s' p1 q1 vr I' sm
    refine iter_ok P Fm h2 vr I' ?_
    intro I₁ o pu'' T s'' q2 hT hS _ J sm'
    exact W _ _ _ _ _ _ _ _ h3 A fenv h₀ L Fm fr own ρ' pu'' s'' _ I₁ o xs 0 T FF (List.drop_zero ..) (Nat.zero_le _) hT hS J (hQ.shift p1 (q1.trans q2) (OwnR.refl _) (sm.trans sm'))
  · rintro es k q rfl
    rw [NT] at h1; (first | exact Mine.ns h1 | exact Mine.ft h1 | exact Mine.sn h1 | exact Mine.tf h1 | cases h1)
end
end Mine

end
section -- S9
namespace Mine
open PySem PySem.W PySem.Calls PyProof.Rows

section
variable {Z : ZP} {G : Glb} {p : Par} {A : Around} {sc csc : Scope} {fenv env cenv : Env} {h₀ : Heap} {L C : Addr} {oC : Obj} {d : Nat} {fr own : Led} {st st' : St} {ρ ρ' : List Addr} {pu pu' : Led} {s : Shared} {ih : Ev}

/-! ## scopes -/
noncomputable def clos (env : Env) : List (Str × NameKind) → List (Str × Addr) → Option (List (Str × Addr))
  | [], cs => some cs
  | (n, k) :: r, cs => if (k == .free) = true then (match env.cells.lookup n with | some c => clos env r ((n, c) :: cs) | none => none) else clos env r cs
theorem clos_pure {scope : Scope} {cl : List (Str × Addr)} (h : clos env scope.names [] = some cl) : closureFor scope env = pure cl := by
  have key : ∀ (l : List (Str × NameKind)) (cs cl : List (Str × Addr)), clos env l cs = some cl →
      (forIn l cs fun (x : Str × NameKind) (cs : List (Str × Addr)) => (do
        if (x.2 == NameKind.free) = true then
          let c ← cellOf env x.1
          pure (ForInStep.yield ((x.1, c) :: cs))
        else pure (ForInStep.yield cs) : Sem (ForInStep (List (Str × Addr))))) = (pure cl : Sem _) := by
    intro l
    induction l with
    | nil => intro cs cl h; (first | exact Mine.ns h | exact Mine.ft h | exact Mine.sn h | exact Mine.tf h | cases h); rfl
    | cons q r ih =>
      intro cs cl h
      obtain ⟨n, k⟩ := q
      unfold clos at h
      rw [List.forIn_cons]
      by_cases hk : (k == NameKind.free) = true
      · rw [if_pos hk] at h
        revert h; refine zONat fun _ _ h => ?_
        rename_i c hc
        simp only [hk, if_true]
        unfold cellOf
        simp only [hc, pure_bind]
        exact ih _ _ h
      · rw [if_neg hk] at h
        simp only [hk, Bool.false_eq_true, if_false, pure_bind]
        exact ih _ _ h
  unfold closureFor
  have := key scope.names [] cl h
  simp only [bind_assoc, pure_bind] at this ⊢
  first
    | (rw [this]; rfl)
    | exact (congrArg (· >>= pure) this).trans (pure_bind _ _)
theorem clos_some : ∀ {l : List (Str × NameKind)} {cs : List (Str × Addr)}, (∀ q ∈ l, q.2 = .free → ∃ c, env.cells.lookup q.1 = some c) → ∃ cl, clos env l cs = some cl
  | [], cs, _ => ⟨cs, rfl⟩
  | (n, k) :: r, cs, h => by
    unfold clos
    by_cases hk : (k == NameKind.free) = true
    · rw [if_pos hk]
      have : k = .free := by (first | exact Mine.ns k | exact Mine.ft k | exact Mine.sn k | exact Mine.tf k | cases k) <;> first | rfl | (first | exact Mine.ns hk | exact Mine.ft hk | exact Mine.sn hk | exact Mine.tf hk | cases hk)
      obtain ⟨c, hc⟩ := h (n, k) (List.mem_cons_self ..) this
      rw [hc]
      exact clos_some fun q hq => h q (List.mem_cons_of_mem _ hq)
    · rw [if_neg hk]
      exact clos_some fun q hq => h q (List.mem_cons_of_mem _ hq)
theorem clos_lookup : ∀ {l : List (Str × NameKind)} {cs cl : List (Str × Addr)}, clos env l cs = some cl → (∀ x c, cs.lookup x = some c → env.cells.lookup x = some c) →
    (∀ x c, cl.lookup x = some c → env.cells.lookup x = some c) ∧ (∀ x, (cs.lookup x).isSome = true → (cl.lookup x).isSome = true) ∧ (∀ q ∈ l, q.2 = .free → (cl.lookup q.1).isSome = true)
  | [], cs, cl, h, hc => by
    (first | exact Mine.ns h | exact Mine.ft h | exact Mine.sn h | exact Mine.tf h | cases h)
    exact ⟨hc, fun _ h => h, by simp⟩
  | (n, k) :: r, cs, cl, h, hc => by
    unfold clos at h
    by_cases hk : (k == NameKind.free) = true
    · rw [if_pos hk] at h
      revert h; refine zONat fun _ _ h => ?_
      rename_i c hcn
      obtain ⟨a, b, e⟩ := clos_lookup h (fun x c' hx => by
        rw [List.lookup_cons] at hx
        (first | (revert hx; refine mb (fun _ hx => ?_) (fun _ hx => ?_)) | split at hx)
        · rename_i hxn
          (first | exact Mine.ns hx | exact Mine.ft hx | exact Mine.sn hx | exact Mine.tf hx | cases hx)
          rw [beq_iff_eq.mp hxn]; exact hcn
        · exact hc x c' hx)
      refine ⟨a, fun x hx => b x ?_, fun q hq hf => ?_⟩
      · rw [List.lookup_cons]
        split
        · rfl
        · exact hx
      · rcases List.mem_cons.mp hq with rfl | hq
        · exact b n (by rw [List.lookup_cons]; simp)
        · exact e q hq hf
    · rw [if_neg hk] at h
      obtain ⟨a, b, e⟩ := clos_lookup h hc
      refine ⟨a, b, fun q hq hf => ?_⟩
      rcases List.mem_cons.mp hq with rfl | hq
      · exfalso; apply hk; rw [show k = .free from hf]; rfl
      · exact e q hq hf
theorem lookup_relabel {names : List (Str × NameKind)} {x : Str} {k : NameKind} (h : names.lookup x = some k) :
    (names.map fun (n, k) => if (k == NameKind.free && env.scope.kind == .function && env.kindOf n == some .cell) then (n, NameKind.cell) else (n, k)).lookup x =
      some (if (k == NameKind.free && env.scope.kind == .function && env.kindOf x == some .cell) then .cell else k) := by
  induction names with
  | nil => (first | exact Mine.ns h | exact Mine.ft h | exact Mine.sn h | exact Mine.tf h | cases h)
  | cons q r ih =>
    obtain ⟨n, k'⟩ := q
    rw [List.lookup_cons] at h
    rw [List.map_cons]
    by_cases hx : (x == n) = true
    · rw [hx] at h
      (first | exact Mine.ns h | exact Mine.ft h | exact Mine.sn h | exact Mine.tf h | cases h)
      have := beq_iff_eq.mp hx
      subst this
      dsimp only
      by_cases hc : (k == NameKind.free && env.scope.kind == .function && env.kindOf x == some .cell) = true
      · rw [if_pos hc, if_pos hc, List.lookup_cons]; simp
      · rw [if_neg hc, if_neg hc, List.lookup_cons]; simp
    · have hx' : (x == n) = false := by simpa using hx
      rw [hx'] at h
      have := ih h
      dsimp only
      by_cases hc : (k' == NameKind.free && env.scope.kind == .function && env.kindOf n == some .cell) = true
      · rw [if_pos hc, List.lookup_cons, hx']; exact this
      · rw [if_neg hc, List.lookup_cons, hx']; exact this
end
end Mine

end
section -- S10
namespace Mine
open PySem PySem.W PySem.Calls PyProof.Rows

section
variable {Z : ZP} {G : Glb} {p : Par} {A : Around} {sc csc : Scope} {fenv env cenv : Env} {h₀ : Heap} {L C : Addr} {oC : Obj} {d : Nat} {fr own : Led} {st st' : St} {ρ ρ' : List Addr} {pu pu' : Led} {s : Shared} {ih : Ev}

theorem nodup_off {pre post : Led} {C : Addr} {o : Obj} (h : ((pre ++ (C, o) :: post).map (·.1)).Nodup) : ∀ q ∈ pre ++ post, q.1 ≠ C := by
  have pm : List.Perm (pre ++ (C, o) :: post) ((C, o) :: (pre ++ post)) := List.perm_middle
  rw [(pm.map (·.1)).nodup_iff, List.map_cons, List.nodup_cons] at h
  intro q hq e
  have hz : q.1 ∈ (pre ++ post).map (·.1) := List.mem_map_of_mem hq
  rw [e] at hz
  exact h.1 hz
/-- one entry of a ledger changed -/
theorem led_set {h h' : Heap} {m : Str → Option Value} {pre post : Led} {C : Addr} {o o' : Obj} (F : Fr h₀ L h m) (N : News h₀ L h (pre ++ (C, o) :: post)) (nd : ((pre ++ (C, o) :: post).map (·.1)).Nodup) (hk : Heap.SameBut C h h') (ho : h'.get? C = some o') :
    Fr h₀ L h' m ∧ News h₀ L h' (pre ++ (C, o') :: post) ∧ ((pre ++ (C, o') :: post).map (·.1)).Nodup := by
  have z := N (C, o) (List.mem_append_right _ (List.mem_cons_self ..))
  have off := nodup_off nd
  refine ⟨⟨F.ns.sameBut hk (Ne.symm z.2.1), fun b ob e => (hk.2 b (fun q => by rw [q, z.2.2] at e; (first | exact Mine.ns e | exact Mine.ft e | exact Mine.sn e | exact Mine.tf e | cases e))).trans (F.keep b ob e), F.above⟩, ?_, ?_⟩
  · intro q hq
    rcases List.mem_append.mp hq with hq | hq
    · have y := N q (List.mem_append_left _ hq)
      exact ⟨(hk.2 _ (off q (List.mem_append_left _ hq))).trans y.1, y.2⟩
    · rcases List.mem_cons.mp hq with rfl | hq
      · exact ⟨ho, z.2⟩
      · have y := N q (List.mem_append_right _ (List.mem_cons_of_mem _ hq))
        exact ⟨(hk.2 _ (off q (List.mem_append_right _ hq))).trans y.1, y.2⟩
  · simpa only [List.map_append, List.map_cons] using nd
theorem InvW.ownOne {R : Rc} {h : Heap} {m mm : Str → Option Value} {tb : Led} {chs : List Led} (W : InvW R Z cenv h₀ L fr ((C, oC) :: own) st ρ pu h m mm tb chs) (hC : cenv.locals = C) : LCg.NsObj oC mm ∧ C ≠ L := by
  have z := W.N (C, oC) (List.mem_append_right _ (List.mem_cons_self ..))
  rcases W.ns with ⟨e, _⟩ | ⟨o, hm, hn⟩
  · exact absurd (hC.symm.trans e) z.2.1
  · rw [hC] at hm
    have y := W.ownMem hm
    rw [z.1] at y
    (first | exact Mine.ns y | exact Mine.ft y | exact Mine.sn y | exact Mine.tf y | cases y)
    exact ⟨hn, z.2.1⟩
/-- a store into the names of a comprehension -/
theorem cstore (Fm : Frm G A csc fenv cenv h₀ L d) (hC : cenv.locals = C) {x : Str} {dv : V} {v : Value} {Q : Unit → Shared → Prop} (hx : csc.names.lookup x = some .local) (hv : VR G.R ρ pu dv v) (I : Inv G.R Z cenv h₀ L fr ((C, oC) :: own) st ρ pu s.heap)
    (hQ : ∀ oC' s', Inv G.R Z cenv h₀ L fr ((C, oC') :: own) { st with l := sput x dv st.l } ρ pu s'.heap → Same s s' → Q () s') : wpAny (model G.prog G.w) A (storeName cenv x v) Q noE s := by
  refine opq fun GG kk => ?_
  obtain ⟨m, mm, tb, chs, W⟩ := I
  have hl := Fm.lcl x hx
  obtain ⟨hns, hCL⟩ := W.ownOne hC
  refine kk ?_
  refine wpAny_storeName_local hl W.nsAt (fun h' hn hs => ?_) (by rw [Fm.ek]; rfl)
  rw [hC] at hn hs
  obtain ⟨oC', ho, hno⟩ := LCg.ns_obj hn
  obtain ⟨F', N', nd'⟩ := led_set W.F W.N W.nd hs ho
  refine hQ oC' { s with heap := h', toks := s.toks + 1 } ⟨_, _, tb, chs, F', W.z, N', nd', .inr ⟨oC', by rw [hC]; exact List.mem_cons_self .., hno⟩, ?_, W.ms, W.tb⟩ ⟨h', s.toks + 1, rfl⟩
  intro y dy hy
  rw [show ({ st with l := sput x dv st.l } : St).l = sput x dv st.l from rfl, lookup_sput] at hy
  by_cases hyx : y = x
  · subst hyx
    rw [if_pos rfl] at hy
    (first | exact Mine.ns hy | exact Mine.ft hy | exact Mine.sn hy | exact Mine.tf hy | cases hy)
    exact .inl ⟨hl, v, if_pos rfl, hv⟩
  · rw [if_neg hyx] at hy
    rcases W.nm y dy hy with ⟨k, w, a, b⟩ | ⟨k, c, o, w, a, b, e, f⟩
    · exact .inl ⟨k, w, (if_neg hyx).trans a, b⟩
    · refine .inr ⟨k, c, o, w, a, ?_, e, f⟩
      rcases List.mem_append.mp b with b | b
      · rcases List.mem_cons.mp b with b | b
        · (first | exact Mine.ns b | exact Mine.ft b | exact Mine.sn b | exact Mine.tf b | cases b)
          obtain ⟨es, ep, hd, _⟩ := hns
          rw [hd] at e; (first | exact Mine.ns e | exact Mine.ft e | exact Mine.sn e | exact Mine.tf e | cases e)
        · exact List.mem_append_left _ (List.mem_cons_of_mem _ b)
      · exact List.mem_append_right _ b
theorem cinOrder_ok (Fm : Frm G A csc fenv cenv h₀ L d) (hC : cenv.locals = C) (xs : List (Str × Pos)) : ∀ {ds : List V} {vals : List Value} {st : St} {l' : List (Str × V)} {oC : Obj} {s : Shared} {Q : Unit → Shared → Prop}, storeLoc csc (xs.map (·.1)) ds st.l = some l' → VRs G.R ρ pu ds vals → Inv G.R Z cenv h₀ L fr ((C, oC) :: own) st ρ pu s.heap →
      (∀ oC' s', Inv G.R Z cenv h₀ L fr ((C, oC') :: own) { st with l := l' } ρ pu s'.heap → Same s s' → Q () s') → wpAny (model G.prog G.w) A (assignInOrder (xs.map fun q => assign (.Name q.1 q.2) cenv) vals) Q noE s := by
  induction xs with
  | nil =>
    intro ds vals st l' oC s Q e hv I hQ
    cases ds with
    | cons _ _ => exact ns e
    | nil =>
      obtain rfl := hv.nil_inv
      obtain rfl := Option.some.inj e
      exact assignInOrder_nil (hQ oC s I (Same.refl s))
  | cons q r ih =>
    intro ds vals st l' oC s Q e hv I hQ
    cases ds with
    | nil => exact ns e
    | cons v vs =>
      obtain ⟨_, _, rfl, h, hr⟩ := hv.cons_inv
      have e : (match isLoc csc q.1 with | true => storeLoc csc (r.map (·.1)) vs (sput q.1 v st.l) | false => none) = some l' := e
      revert e; refine zB fun hk e => ?_
      exact assignInOrder_cons (assign_Name (cstore Fm hC (isLoc_iff hk) h I fun oC' s' I' sm => ih (st := { st with l := sput q.1 v st.l }) e hr I' fun oC'' s'' I'' sm' => hQ oC'' s'' I'' (sm.trans sm')))
theorem storeLoc_len : ∀ {xs : List Str} {ds : List V} {l l' : List (Str × V)}, storeLoc csc xs ds l = some l' → xs.length = ds.length := by
  intro xs
  induction xs with
  | nil => intro ds l l' e; cases ds with | nil => rfl | cons _ _ => exact ns e
  | cons x r ih =>
    intro ds l l' e
    cases ds with
    | nil => exact ns e
    | cons v vs =>
      have e : (match isLoc csc x with | true => storeLoc csc r vs (sput x v l) | false => none) = some l' := e
      revert e; refine zB fun _ e => ?_
      exact congrArg Nat.succ (ih e)
/-- the iterators served own no tuple -/
theorem letOwned_ok {t : Expr} {I : Addr} {o : Obj} {v : Value} {Q : Unit → Shared → Prop} {E : Value → Shared → Prop} (ho : s.heap.get? I = some o) (hc : o.cls = .type "list_iterator" ∨ o.cls = .type "tuple_iterator") (h : Q () s) :
    wpAny (model G.prog G.w) A (letOwnedTupleGo t (.ref I) v) Q E s := by
  have own : ∀ a, wpAny (model G.prog G.w) A (letOwnedTupleGo (.Tuple [] 0 default) (.ref I) (.ref a)) Q E s := by
    intro a
    refine wpAny_bind (wpAny_load ho ?_)
    cases o.data <;> (rcases hc with hc | hc <;> (rw [hc]; exact wpAny_pure h))
  (first | exact Mine.ns t | exact Mine.ft t | exact Mine.sn t | exact Mine.tf t | cases t)
  case Tuple => (first | exact Mine.ns v | exact Mine.ft v | exact Mine.sn v | exact Mine.tf v | cases v) <;> first | exact own _ | exact wpAny_pure h
  case List => (first | exact Mine.ns v | exact Mine.ft v | exact Mine.sn v | exact Mine.tf v | cases v) <;> first | exact own _ | exact wpAny_pure h
  all_goals exact wpAny_pure h
/-- the stores of a turn -/
theorem cassign_ok (Fm : Frm G A csc fenv cenv h₀ L d) (hC : cenv.locals = C) {t : Expr} {dv : V} {v : Value} {l' : List (Str × V)} {Q : Unit → Shared → Prop} (e : storeC csc t dv st.l = some l') (hv : VR G.R ρ pu dv v) (I : Inv G.R Z cenv h₀ L fr ((C, oC) :: own) st ρ pu s.heap)
    (hQ : ∀ oC' s', Inv G.R Z cenv h₀ L fr ((C, oC') :: own) { st with l := l' } ρ pu s'.heap → Same s s' → Q () s') : wpAny (model G.prog G.w) A (assign t cenv v) Q noE s := by
  unfold storeC at e
  cases h1 : isNamE t with
  | some x =>
    rw [h1] at e
    obtain ⟨p, rfl⟩ := isNamE_iff h1
    clear h1
    revert e; refine zB fun hk e => ?_
    obtain rfl := Option.some.inj e
    exact assign_Name (cstore Fm hC (isLoc_iff hk) hv I hQ)
  | none =>
    rw [h1] at e
    clear h1
    revert e; refine zOLE fun es h2 e => ?_
    obtain ⟨k, p, rfl⟩ := isTup_iff h2
    clear h2
    revert e; refine zOLV fun ds h3 e => ?_
    obtain rfl := tupOf_iff h3
    clear h3
    unfold assignLoc at e
    revert e; refine zOLStr fun xs hx e => ?_
    obtain ⟨ns, rfl, rfl⟩ := nmsE_ok hx
    clear hx
    obtain ⟨q1, q2, q3⟩ := assignEach_names (env := cenv) ns
    obtain ⟨a, vs, rfl, ht, hr⟩ := hv.tup_inv I Fm.kin
    obtain ⟨m, mm, tb, chs, W⟩ := I
    have len := storeLoc_len e
    refine unpackN_ W.F W.N ht Fm.hand ?_ q3 fun h' F' N' => ?_
    · rw [q2, ← List.length_map (f := fun q : Str × Pos => q.1), len, VRs.length hr]; simp
    · rw [q1]
      exact cinOrder_ok (s := { s with heap := h' }) Fm hC ns e hr ⟨m, mm, tb, chs, W.again F' N'⟩ fun oC' s' I'' sm => hQ oC' s' I'' (Same.trans (Same.toks s h' s.toks) sm)
theorem InvW.fr2 {R : Rc} {h h' : Heap} {m mm : Str → Option Value} {tb : Led} {chs : List Led} {q : Addr × Obj} {D : Addr} {o o' : Obj} (W : InvW R Z env h₀ L (q :: (D, o) :: fr) own st ρ pu h m mm tb chs) (hk : Heap.SameBut D h h') (ho : h'.get? D = some o') :
    InvW R Z env h₀ L (q :: (D, o') :: fr) own st ρ pu h' m mm tb chs := by
  obtain ⟨F', N', nd'⟩ := led_set (pre := [q]) W.F W.N W.nd hk ho
  exact ⟨F', W.z, N', nd', W.ns, W.nm, W.ms, W.tb⟩

noncomputable def SCm (G : Glb) (d : Nat) (ih : Ev) : Prop := ∀ csc elt t ts vs acc st v st', ih csc (.g elt t ts vs acc) st = some (.v v, st') → ∃ res, v = .lst res ∧
  ∀ (Z : ZP) A fenv cenv h₀ L, Frm G A csc fenv cenv h₀ L d → ∀ fr own ρ pu s (R : Result → Shared → Prop) I o D ys C oC xs i S iter scope pos, cenv.locals = C → xs.drop i = vs → i ≤ xs.length → ys.length ≤ i → xs.length ≤ 10000 → ItS G h₀ ρ pu I xs S → S i s.heap → VRs G.R ρ pu acc ys →
    Inv G.R Z cenv h₀ L ((I, o) :: (D, LCg.lst ys) :: fr) ((C, oC) :: own) st ρ pu s.heap →
    (∀ ρ' pu' ys' oC' s', Pre ρ ρ' → Sub pu pu' → VRs G.R ρ' pu' res ys' → Inv G.R Z cenv h₀ L ((D, LCg.lst ys') :: fr) ((C, oC') :: own) st' ρ' pu' s'.heap → Same s s' → R (.ok .next) s') →
    codeAny (model G.prog G.w) A (.compLoop (.ListComp elt [⟨t, iter, ts, 0⟩] scope pos) 0 (.ref I) (.ref D) cenv) R s
theorem tup_in {xs : List V} {i : Nat} {l : List V} (h : xs[i]? = some (.tup l)) : V.tup l ∈ xs := List.mem_of_getElem? h
noncomputable abbrev testsTree (ts : List Expr) (env : Env) : Sem Bool := forIn ts true fun c r => if r = true then do let ok ← isTrue c env (eval c env); pure (ForInStep.yield ok) else pure (ForInStep.yield r)
theorem tests_ok (T₁ : STt G d ih) {env : Env} (Fm : Frm G A csc fenv env h₀ L d) {ts : List Expr} {b : Bool} {st₂ : St} {Q : Bool → Shared → Prop} {s : Shared} (h : testsV ih csc ts st = some (b, st₂)) (I : Inv G.R Z env h₀ L fr own st ρ pu s.heap) (hQ : BP G.R Z env h₀ L fr own st₂ ρ pu s b Q) :
    wpAny (model G.prog G.w) A (testsTree ts env) Q noE s := by
  refine opq fun GG kk => ?_
  unfold testsV at h
  (first | (revert h; refine mb (fun _ h => ?_) (fun _ h => ?_)) | split at h)
  · obtain ⟨rfl, rfl⟩ := oPi h
    refine kk ?_
    exact wpAny_tests_nil (hQ.here (tk := s.toks) I)
  · refine kk ?_
    exact wpAny_tests_one (T₁ _ _ _ _ _ (asB_some h) A fenv env h₀ L Fm fr own ρ pu s _ I hQ)
  · (first | exact Mine.ns h | exact Mine.ft h | exact Mine.sn h | exact Mine.tf h | cases h)
/-- a turn's item: taken, and stored -/
theorem g_item (Fm : Frm G A csc fenv cenv h₀ L d) (hC : cenv.locals = C) {t : Expr} {v₁ : V} {vs : List V} {l : List (Str × V)} {I : Addr} {o : Obj} {xs : List V} {i : Nat} {S : Nat → Heap → Prop} {R K : Shared → Prop} (hd : xs.drop i = v₁ :: vs) (hi : i ≤ xs.length) (hl : storeC csc t v₁ st.l = some l) (T : ItS G h₀ ρ pu I xs S) (hS : S i s.heap) (J : Inv G.R Z cenv h₀ L ((I, o) :: fr) ((C, oC) :: own) st ρ pu s.heap)
    (k : ∀ (o' oC' : Obj) (s' s'' : Shared), i < xs.length → xs.drop (i + 1) = vs → S (i + 1) s'.heap → Inv G.R Z cenv h₀ L ((I, o') :: fr) ((C, oC) :: own) st ρ pu s'.heap → Inv G.R Z cenv h₀ L ((I, o') :: fr) ((C, oC') :: own) { st with l := l } ρ pu s''.heap → Same s s'' → K s'') :
    wpAny (model G.prog G.w) A (pyNext (.ref I)) (fun r s₁ => match r with
      | none => R s₁
      | some v => wpAny (model G.prog G.w) A (letOwnedTupleGo t (.ref I) v) (fun _ s₁ => wpAny (model G.prog G.w) A (assign t cenv v) (fun _ s₂ => K s₂) noE s₁) noE s₁) noE s := by
  have hlt : i < xs.length := by
    have := congrArg List.length hd
    rw [List.length_drop, List.length_cons] at this
    lia
  have hdr := (List.drop_eq_getElem_cons hlt).symm.trans hd
  refine next_ok Fm.hand T hS hi J ?_ (fun s' hin _ _ => absurd (hin ▸ hlt) (Nat.lt_irrefl _))
  intro y v o' s' hy' hv hS' J' sm
  have hy : y = v₁ := (List.getElem?_eq_some_iff.mp hy').2.symm.trans (List.cons.inj hdr).1
  have hvs := (List.cons.inj hdr).2
  clear hdr hd
  subst hy
  have hown : ∀ {Q : Unit → Shared → Prop}, Q () s' → wpAny (model G.prog G.w) A (letOwnedTupleGo t (.ref I) v) Q noE s' := by
    intro Q hq
    obtain ⟨fp, P, _, _, _, e⟩ := T
    obtain ⟨o₂, ho₂, hc⟩ := e _ _ hS'
    rcases hc with hc | hc
    · exact letOwned_ok ho₂ hc hq
    · unfold storeC at hl
      cases h1 : isNamE t with
      | some x => obtain ⟨p, rfl⟩ := isNamE_iff h1; exact wpAny_pure hq
      | none =>
        rw [h1] at hl
        revert hl; refine zOLE fun es h2 hl => ?_
        revert hl; refine zOLV fun ds h3 hl => ?_
        obtain rfl := tupOf_iff h3
        exact absurd (tup_in hy') (hc _)
  exact hown (cassign_ok Fm hC hl hv J' fun oC' s'' J'' sm' => k o' oC' s' s'' hlt hvs hS' J' J'' (sm.trans sm'))
set_option tactic.hygienic true in
theorem g_turn (S₁ : SE G d ih) (T₁ : STt G d ih) (W : SCm G d ih) {elt t : Expr} {ts : List Expr} {vs acc : List V} {v : V}
    (h2 : (match vs with
      | [] => some (Out.v (.lst acc), st)
      | v :: vs => (match storeC csc t v st.l with
        | some l => (match testsV ih csc ts ⟨l, st.h⟩ with
          | some (true, st) => (match asV (ih csc (.e elt) st) with
            | some (x, st) => ih csc (.g elt t ts vs (acc ++ [x])) st
            | none => none)
          | some (false, st) => ih csc (.g elt t ts vs acc) st
          | none => none)
        | none => none)) = some (.v v, st')) : ∃ res, v = .lst res ∧
  ∀ (Z : ZP) A fenv cenv h₀ L, Frm G A csc fenv cenv h₀ L d → ∀ fr own ρ pu s (R : Result → Shared → Prop) I o D ys C oC xs i S iter scope pos, cenv.locals = C → xs.drop i = vs → i ≤ xs.length → ys.length ≤ i → xs.length ≤ 10000 → ItS G h₀ ρ pu I xs S → S i s.heap → VRs G.R ρ pu acc ys →
    Inv G.R Z cenv h₀ L ((I, o) :: (D, LCg.lst ys) :: fr) ((C, oC) :: own) st ρ pu s.heap →
    (∀ ρ' pu' ys' oC' s', Pre ρ ρ' → Sub pu pu' → VRs G.R ρ' pu' res ys' → Inv G.R Z cenv h₀ L ((D, LCg.lst ys') :: fr) ((C, oC') :: own) st' ρ' pu' s'.heap → Same s s' → R (.ok .next) s') →
    codeAny (model G.prog G.w) A (.compLoop (.ListComp elt [⟨t, iter, ts, 0⟩] scope pos) 0 (.ref I) (.ref D) cenv) R s := by
  refine opq fun GG kk => ?_
  have start : ∀ {A : Around} {s : Shared} {cenv : Env} {R : Result → Shared → Prop} {I D : Addr} {iter : Expr} {scope : Scope} {pos : Pos},
      wpAny (model G.prog G.w) A (pyNext (.ref I)) (fun r s₁ => match r with
        | none => R (.ok .next) s₁
        | some v => wpAny (model G.prog G.w) A (letOwnedTupleGo t (.ref I) v) (fun _ s₁ => wpAny (model G.prog G.w) A (assign t cenv v) (fun _ s₂ => wpAny (model G.prog G.w) A (testsTree ts cenv) (fun ok s₃ => (ok = false → codeAny (model G.prog G.w) A (.compLoop (.ListComp elt [⟨t, iter, ts, 0⟩] scope pos) 0 (.ref I) (.ref D) cenv) R s₃) ∧ (ok = true → wpAny (model G.prog G.w) A (eval elt cenv) (fun x s₄ =>
            wpAny (model G.prog G.w) A (call (.builtin "list.append") [.ref D, x]) (fun _ s₅ => codeAny (model G.prog G.w) A (.compLoop (.ListComp elt [⟨t, iter, ts, 0⟩] scope pos) 0 (.ref I) (.ref D) cenv) R s₅) noE s₄) noE s₃)) noE s₂) noE s₁) noE s₁) noE s →
      codeAny (model G.prog G.w) A (.compLoop (.ListComp elt [⟨t, iter, ts, 0⟩] scope pos) 0 (.ref I) (.ref D) cenv) R s := by
    intro A s cenv R I D iter scope pos h
    refine codeAny_of_tree ?_
    rw [show A.under (.compLoop (.ListComp elt [⟨t, iter, ts, 0⟩] scope pos) 0 (.ref I) (.ref D) cenv) = A from Around.under_of_weight rfl]
    show wpAny _ A ((compTurn (.ListComp elt [⟨t, iter, ts, 0⟩] scope pos) 0 (.ref I) (.ref D) cenv).onRaise (fun x => do noteFrame x cenv; theTreesLotGoes x)) _ _ s
    refine wpAny_noted (wpAny_mono (E := noE) ?_ (fun _ _ x => x) fun _ _ x => x.elim)
    rw [compTurn_list]
    refine wpAny_bind (wpAny_standAt (wpAny_bind (wpAny_mono h (fun r s₁ h₁ => ?_) fun _ _ x => x)))
    cases r with
    | none => exact wpAny_pure h₁
    | some v =>
      refine wpAny_bind (wpAny_mono h₁ (fun _ s₂ h₂ => ?_) fun _ _ x => x)
      refine wpAny_bind (wpAny_mono h₂ (fun _ s₃ h₃ => ?_) fun _ _ x => x)
      refine wpAny_bind (wpAny_mono h₃ (fun ok s₃' h₃' => ?_) fun _ _ x => x)
      cases ok with
      | false =>
        simp only [Bool.false_eq_true, if_false]
        exact wpAny_pure ⟨rfl, h₃'.1 rfl⟩
      | true =>
        simp only [if_true]
        refine wpAny_bind ?_
        refine wpAny_bind (wpAny_mono (h₃'.2 rfl) (fun x s₄ h₄ => ?_) fun _ _ x => x)
        refine wpAny_bind (wpAny_mono h₄ (fun _ s₅ h₅ => ?_) fun _ _ x => x)
        exact wpAny_pure (wpAny_pure ⟨rfl, h₅⟩)
  cases vs with
  | nil =>
    (first | exact Mine.ns h2 | exact Mine.ft h2 | exact Mine.sn h2 | exact Mine.tf h2 | cases h2)
    refine kk ?_
    refine ⟨acc, rfl, ?_⟩
    intro Z A fenv cenv h₀ L Fm fr own ρ pu s R I o D ys C oC xs i S iter scope pos hC hd hi hy hsz T hS hacc J hR
    refine start (next_ok Fm.hand T hS hi J ?_ ?_)
    · intro y v o' s' hy' hv hS' J' sm
      have hlt : i < xs.length := (List.getElem?_eq_some_iff.mp hy').1
      have := congrArg List.length hd
      rw [List.length_drop, List.length_nil] at this
      lia
    · intro s' hin J' sm
      exact hR ρ pu ys oC s' (Pre.refl _) (Sub.refl _) hacc J' sm
  | cons v₁ vs =>
    simp only [] at h2
    revert h2; refine zOLSV fun _ _ h2 => ?_
    rename_i l hl
    (first | (revert h2; refine mb (fun _ h2 => ?_) (fun _ h2 => ?_)) | split at h2)
    · rename_i st₁ ht
      revert h2; refine zPVSt fun _ _ _ h2 => ?_
      rename_i x st₂ hx
      obtain ⟨res, rfl, hres⟩ := W _ _ _ _ _ _ _ _ _ h2
      refine kk ?_
      refine ⟨res, rfl, ?_⟩
      intro Z A fenv cenv h₀ L Fm fr own ρ pu s R I o D ys C oC xs i S iter scope pos hC hd hi hy hsz T hS hacc J hR
      refine start (g_item Fm hC hd hi hl T hS J fun o' oC' s' s'' hlt hdr hS' J' J'' sm' => ?_)
      refine tests_ok T₁ Fm ht J'' ?_
      intro ρ2 pu2 s2 p2 q2 J2 sm2
      refine ⟨(fun e => nomatch e), fun _ => ?_⟩
      refine S₁ _ _ _ _ _ (asV_some hx) A fenv cenv h₀ L Fm _ _ ρ2 pu2 s2 _ J2 ?_
      intro xv ρ3 pu3 s3 p3' q3' vx J3 sm3'
      have p3 := p2.trans p3'
      have q3 := q2.trans q3'
      have sm3 := sm2.trans sm3'
      have hS3 : S (i + 1) s3.heap := T.stay hS' J' q3 J3
      have hg : s3.heap.get? D = some (LCg.lst ys) := by
        obtain ⟨m, mm, tb, chs, W3⟩ := J3
        exact (W3.N (D, LCg.lst ys) (List.mem_cons_of_mem _ (List.mem_cons_self ..))).1
      refine append_at (hsz := by show ys.toArray.size ≤ sizeLine; rw [List.size_toArray, sizeLine_eq]; lia) hg fun h5 hs5 hD5 => ?_
      have hD5' : h5.get? D = some (LCg.lst (ys ++ [xv])) := hD5.trans (congrArg some (LCg.lst_snoc ys xv))
      have J5 : Inv G.R Z cenv h₀ L ((I, o') :: (D, LCg.lst (ys ++ [xv])) :: fr) ((C, oC') :: own) st₂ ρ3 pu3 h5 := by
        obtain ⟨m, mm, tb, chs, W3⟩ := J3
        exact ⟨m, mm, tb, chs, W3.fr2 hs5 hD5'⟩
      have hS5 : S (i + 1) h5 := by
        obtain ⟨fp, P, a, b, c, e⟩ := T
        refine (a {} rfl).frame _ _ _ hS3 fun b' hb' ob hob => ?_
        refine (hs5.2 b' ?_).trans hob
        intro hbD
        subst hbD
        obtain ⟨m, mm, tb, chs, W3⟩ := J3
        have off := nodup_off (pre := [(I, o')]) W3.nd
        rcases b _ hb' with rfl | ⟨o₂, q⟩ | ⟨o₂, q⟩
        · exact off _ (List.mem_cons_self ..) rfl
        · exact off (b', o₂) (List.mem_append_right [(I, o')] (List.mem_append_right _ (List.mem_append_right _ (List.mem_append_right _ (List.mem_append_right _ (q3 _ q)))))) rfl
        · have z := W3.N (b', LCg.lst ys) (List.mem_cons_of_mem _ (List.mem_cons_self ..))
          rw [z.2.2] at q; (first | exact Mine.ns q | exact Mine.ft q | exact Mine.sn q | exact Mine.tf q | cases q)
      refine hres Z A fenv cenv h₀ L Fm fr own ρ3 pu3 { s3 with heap := h5 } R I o' D (ys ++ [xv]) C oC' xs (i + 1) S iter scope pos hC hdr hlt (by rw [List.length_append, List.length_singleton]; lia) hsz (T.mono p3 q3) hS5 ((hacc.mono p3 q3).append (.cons vx .nil)) J5 ?_
      intro ρ6 pu6 ys6 oC6 s6 p6 q6 v6 J6 sm6
      exact hR ρ6 pu6 ys6 oC6 s6 (p3.trans p6) (q3.trans q6) v6 J6 ((sm'.trans sm3).trans (Same.trans (Same.toks s3 h5 s3.toks) sm6))
    · rename_i st₁ ht
      obtain ⟨res, rfl, hres⟩ := W _ _ _ _ _ _ _ _ _ h2
      refine kk ?_
      refine ⟨res, rfl, ?_⟩
      intro Z A fenv cenv h₀ L Fm fr own ρ pu s R I o D ys C oC xs i S iter scope pos hC hd hi hy hsz T hS hacc J hR
      refine start (g_item Fm hC hd hi hl T hS J fun o' oC' s' s'' hlt hdr hS' J' J'' sm' => ?_)
      refine tests_ok T₁ Fm ht J'' ?_
      intro ρ2 pu2 s2 p2 q2 J2 sm2
      refine ⟨fun _ => ?_, (fun e => nomatch e)⟩
      have hS2 : S (i + 1) s2.heap := T.stay hS' J' q2 J2
      refine hres Z A fenv cenv h₀ L Fm fr own ρ2 pu2 s2 R I o' D ys C oC' xs (i + 1) S iter scope pos hC hdr hlt (by lia) hsz (T.mono p2 q2) hS2 (hacc.mono p2 q2) J2 ?_
      intro ρ6 pu6 ys6 oC6 s6 p6 q6 v6 J6 sm6
      exact hR ρ6 pu6 ys6 oC6 s6 (p2.trans p6) (q2.trans q6) v6 J6 ((sm'.trans sm2).trans sm6)
    · (first | exact Mine.ns h2 | exact Mine.ft h2 | exact Mine.sn h2 | exact Mine.tf h2 | cases h2)
end
end Mine

end
section -- S11
namespace Mine
open PySem PySem.W PySem.Calls PyProof.Rows

section
variable {Z : ZP} {G : Glb} {p : Par} {A : Around} {sc csc : Scope} {fenv env cenv : Env} {h₀ : Heap} {L C : Addr} {oC : Obj} {d : Nat} {fr own : Led} {st st' : St} {ρ ρ' : List Addr} {pu pu' : Led} {s : Shared} {ih : Ev}

theorem okComp_lam {l : List (Str × V)} (h : okComp sc csc l = true) : lamSc csc = false := by
  unfold okComp at h
  replace h := and3 h
  simpa using h.1.2
theorem okComp_iff {l : List (Str × V)} (h : okComp sc csc l = true) : csc.kind = .function ∧ ∀ q ∈ csc.names, (q.1 == ("__debug__" : Str)) = false ∧ (q.1 == ("__classdict__" : Str)) = false ∧ q.2 ≠ .cell ∧
    (q.2 = .local → csc.names.lookup q.1 = some .local) ∧ (q.2 = .free → (sc.names.lookup q.1 = some .cell ∨ sc.names.lookup q.1 = some .free)) := by
  unfold okComp at h
  replace h := and3 h
  obtain ⟨⟨h1, _⟩, h2⟩ := h
  refine ⟨by revert h1; cases csc.kind <;> simp, fun q hq => ?_⟩
  have := (List.all_eq_true.mp h2) q hq
  replace this := and3 this
  obtain ⟨⟨a, b⟩, c⟩ := this
  have ha : q.1 ≠ ("__debug__" : Str) := (seq_false _ _).mp (by simpa using a)
  have hb : q.1 ≠ ("__classdict__" : Str) := (seq_false _ _).mp (by simpa using b)
  refine ⟨by rw [beq_eq_false_iff_ne]; exact ha, by rw [beq_eq_false_iff_ne]; exact hb, ?_, ?_, ?_⟩
  · intro e; rw [e] at c; (first | exact Mine.ns c | exact Mine.ft c | exact Mine.sn c | exact Mine.tf c | cases c)
  · intro e
    rw [e] at c
    simp only [slook_eq] at c
    (first | (revert c; refine mb (fun _ c => ?_) (fun _ c => ?_)) | split at c)
    · assumption
    · (first | exact Mine.ns c | exact Mine.ft c | exact Mine.sn c | exact Mine.tf c | cases c)
  · intro e
    rw [e] at c
    simp only [slook_eq, Bool.and_eq_true] at c
    obtain ⟨_, c⟩ := c
    (first | (revert c; refine mb (fun _ c => ?_) (fun _ c => ?_)) | split at c)
    · rename_i h; exact .inl h
    · rename_i h; exact .inr h
    · (first | exact Mine.ns c | exact Mine.ft c | exact Mine.sn c | exact Mine.tf c | cases c)
theorem lookup_relabel_none {names : List (Str × NameKind)} {x : Str} (h : names.lookup x = none) :
    (names.map fun (n, k) => if (k == NameKind.free && env.scope.kind == .function && env.kindOf n == some .cell) then (n, NameKind.cell) else (n, k)).lookup x = none := by
  induction names with
  | nil => rfl
  | cons q r ih =>
    obtain ⟨n, k'⟩ := q
    rw [List.lookup_cons] at h
    rw [List.map_cons]
    (first | (revert h; refine mb (fun _ h => ?_) (fun _ h => ?_)) | split at h)
    · (first | exact Mine.ns h | exact Mine.ft h | exact Mine.sn h | exact Mine.tf h | cases h)
    · rename_i hx
      dsimp only
      by_cases hc : (k' == NameKind.free && env.scope.kind == .function && env.kindOf n == some .cell) = true
      · rw [if_pos hc, List.lookup_cons, hx]; exact ih h
      · rw [if_neg hc, List.lookup_cons, hx]; exact ih h
theorem lookup_filter {α : Type} {f : Str → Bool} {x : Str} {d : α} : ∀ {l : List (Str × α)}, (l.filter fun q => f q.1).lookup x = some d → l.lookup x = some d ∧ f x = true
  | [], h => by (first | exact Mine.ns h | exact Mine.ft h | exact Mine.sn h | exact Mine.tf h | cases h)
  | (k, v) :: r, h => by
    rw [List.filter_cons] at h
    rw [List.lookup_cons]
    (first | (revert h; refine mb (fun _ h => ?_) (fun _ h => ?_)) | split at h)
    · rename_i hf
      rw [List.lookup_cons] at h
      (first | (revert h; refine mb (fun _ h => ?_) (fun _ h => ?_)) | split at h)
      · rename_i hx
        rw [hx]
        exact ⟨h, beq_iff_eq.mp hx ▸ hf⟩
      · rename_i hx
        rw [hx]
        exact lookup_filter h
    · rename_i hf
      have := lookup_filter h
      by_cases hx : (x == k) = true
      · rw [← beq_iff_eq.mp hx] at hf
        exact absurd this.2 hf
      · rw [show (x == k) = false by simpa using hx]
        exact this
theorem comp_kind {cl : List (Str × Addr)} {x : Str} {k : NameKind} (h : csc.names.lookup x = some k) : (compEnvC csc cl C env).kindOf x = some (if (k == NameKind.free && env.scope.kind == .function && env.kindOf x == some .cell) then .cell else k) :=
  lookup_relabel h
theorem comp_frm (Fm : Frm G A sc fenv env h₀ L d) {l : List (Str × V)} {cl : List (Str × Addr)} (hok : okComp sc csc l = true) (hcl : clos env csc.names [] = some cl) : Frm G A csc fenv (compEnvC csc cl C env) h₀ L d := by
  obtain ⟨hk, hn⟩ := okComp_iff hok
  obtain ⟨c1, _, c3⟩ := clos_lookup hcl (fun _ _ h => by (first | exact Mine.ns h | exact Mine.ft h | exact Mine.sn h | exact Mine.tf h | cases h))
  refine { below := Fm.below, fl := Fm.fl, fk := Fm.fk, kin := Fm.kin, top := Fm.top, hand := Fm.hand, depth := Fm.depth, units := Fm.units, ek := hk, eg := Fm.eg, eb := Fm.eb, glo := ?_, lcl := ?_, clo := ?_, cls := ?_, dbg := ?_, fe := fun h => absurd h (by rw [okComp_lam hok]; exact Bool.false_ne_true) }
  · intro x hx; rw [comp_kind hx]; rfl
  · intro x hx; rw [comp_kind hx]; rfl
  · intro x hx
    rcases hx with hx | hx
    · rw [comp_kind hx]; exact .inl rfl
    · rw [comp_kind hx]
      split
      · exact .inl rfl
      · exact .inr rfl
  · intro x hx
    cases e : csc.names.lookup x with
    | none =>
      have : (compEnvC csc cl C env).kindOf x = none := lookup_relabel_none e
      rw [this] at hx
      rcases hx with hx | hx <;> (first | exact Mine.ns hx | exact Mine.ft hx | exact Mine.sn hx | exact Mine.tf hx | cases hx)
    | some k =>
      have hm := lookup_memL e
      have hq := hn _ hm
      have hf : k = .free := by
        rw [comp_kind e] at hx
        by_cases hc : (k == NameKind.free && env.scope.kind == .function && env.kindOf x == some .cell) = true
        · replace hc := and3 hc
          have := hc.1.1
          (first | exact Mine.ns k | exact Mine.ft k | exact Mine.sn k | exact Mine.tf k | cases k) <;> first | rfl | (first | exact Mine.ns this | exact Mine.ft this | exact Mine.sn this | exact Mine.tf this | cases this)
        · rw [if_neg hc] at hx
          rcases hx with hx | hx
          · (first | exact Mine.ns hx | exact Mine.ft hx | exact Mine.sn hx | exact Mine.tf hx | cases hx); exact absurd rfl hq.2.2.1
          · (first | exact Mine.ns hx | exact Mine.ft hx | exact Mine.sn hx | exact Mine.tf hx | cases hx); rfl
      have := c3 _ hm hf
      obtain ⟨c, hc⟩ := Option.isSome_iff_exists.mp this
      exact ⟨c, hc⟩
  · intro x k hx
    exact (hn _ (lookup_memL hx)).1
/-- the ledger, two of its first ones changed about -/
theorem InvW.frSwap {R : Rc} {h : Heap} {m mm : Str → Option Value} {tb : Led} {chs : List Led} {a b : Addr × Obj} (W : InvW R Z env h₀ L (a :: b :: fr) own st ρ pu h m mm tb chs) : InvW R Z env h₀ L (b :: a :: fr) own st ρ pu h m mm tb chs := by
  have pm : List.Perm (LED (b :: a :: fr) own tb chs pu) (LED (a :: b :: fr) own tb chs pu) := List.Perm.swap ..
  refine ⟨W.F, W.z, fun q hq => W.N q (pm.mem_iff.mp hq), ?_, W.ns, W.nm, W.ms, W.tb⟩
  rw [(pm.map (·.1)).nodup_iff]
  exact W.nd
/-- into a comprehension -/
theorem InvW.enter {R : Rc} {h h' : Heap} {m mm mm' : Str → Option Value} {tb : Led} {chs : List Led} {l : List (Str × V)} {hh : List MO} {cl : List (Str × Addr)} (W : InvW R Z env h₀ L fr own ⟨l, hh⟩ ρ pu h m mm tb chs) (Fm : Frm G A sc fenv env h₀ L d) (hok : okComp sc csc l = true) (hcl : clos env csc.names [] = some cl)
    (old : ∀ b o, h.get? b = some o → h'.get? b = some o) (fs : C ∉ (LED fr own tb chs pu).map (·.1)) (hC : h'.get? C = some oC) (hno : LCg.NsObj oC mm') (hCL : C ≠ L) (hC0 : h₀.get? C = none) :
    InvW R (fun m' => m' = m) (compEnvC csc cl C env) h₀ L fr ((C, oC) :: own) ⟨compVars csc l, hh⟩ ρ pu h' m mm' tb chs := by
  obtain ⟨hk, hn⟩ := okComp_iff hok
  obtain ⟨c1, _, c3⟩ := clos_lookup hcl (fun _ _ h => by (first | exact Mine.ns h | exact Mine.ft h | exact Mine.sn h | exact Mine.tf h | cases h))
  have pm : List.Perm (LED fr ((C, oC) :: own) tb chs pu) ((C, oC) :: LED fr own tb chs pu) := List.perm_middle
  refine ⟨W.F.keeps old, rfl, ?_, ?_, .inr ⟨oC, List.mem_cons_self .., hno⟩, ?_, W.ms, W.tb⟩
  · intro q hq
    rcases List.mem_cons.mp (pm.mem_iff.mp hq) with rfl | hq
    · exact ⟨hC, hCL, hC0⟩
    · exact ⟨old _ _ (W.N q hq).1, (W.N q hq).2⟩
  · rw [(pm.map (·.1)).nodup_iff, List.map_cons, List.nodup_cons]
    exact ⟨fs, W.nd⟩
  · intro x dv hx
    have hx' : ((l.filter fun q => (fun y => match slook y csc.names with | some .free => true | _ => false) q.1).lookup x) = some dv := hx
    obtain ⟨hl, hf⟩ := lookup_filter (f := fun y => match slook y csc.names with | some .free => true | _ => false) hx'
    have hfree : csc.names.lookup x = some .free := by
      simp only [slook_eq] at hf
      (first | (revert hf; refine mb (fun _ hf => ?_) (fun _ hf => ?_)) | split at hf)
      · assumption
      · (first | exact Mine.ns hf | exact Mine.ft hf | exact Mine.sn hf | exact Mine.tf hf | cases hf)
    have hm := lookup_memL hfree
    have hq := hn _ hm
    have hout := Fm.clo x (hq.2.2.2.2 rfl)
    obtain ⟨c', hc'⟩ := Option.isSome_iff_exists.mp (c3 _ hm rfl)
    rcases W.nm x dv hl with ⟨k, _⟩ | ⟨_, c, o, v, a, b, e, f⟩
    · rw [k] at hout; rcases hout with e | e <;> (first | exact Mine.ns e | exact Mine.ft e | exact Mine.sn e | exact Mine.tf e | cases e)
    · refine .inr ⟨?_, c, o, v, ?_, ?_, e, f⟩
      · rw [comp_kind hfree]
        split
        · exact .inl rfl
        · exact .inr ⟨rfl, hq.2.1⟩
      · have := c1 _ _ hc'
        rw [a] at this
        (first | exact Mine.ns this | exact Mine.ft this | exact Mine.sn this | exact Mine.tf this | cases this)
        exact hc'
      · rcases List.mem_append.mp b with b | b
        · exact List.mem_append_left _ (List.mem_cons_of_mem _ b)
        · exact List.mem_append_right _ b
/-- and out again: the names of the comprehension stay for a while -/
theorem InvW.leave {R : Rc} {h h₁ : Heap} {m mm m₁ mm₁ : Str → Option Value} {tb tb₁ : Led} {chs chs₁ : List Led} {l l₁ : List (Str × V)} {hh hh₁ : List MO} {cl : List (Str × Addr)} {D : Addr} {ys : List Value} {fr' : Led} (ok : RcOk R) (W : InvW R Z env h₀ L fr' own ⟨l, hh⟩ ρ pu h m mm tb chs)
    (W₁ : InvW R (fun m' => m' = m) (compEnvC csc cl C env) h₀ L ((D, LCg.lst ys) :: fr) ((C, oC) :: own) ⟨l₁, hh₁⟩ ρ' pu' h₁ m₁ mm₁ tb₁ chs₁) (p1 : Pre ρ ρ') (q1 : Sub pu pu') :
    InvW R Z env h₀ L ((C, oC) :: fr) own ⟨l, hh₁⟩ ρ' ((D, LCg.lst ys) :: pu') h₁ m mm tb₁ chs₁ := by
  have hm : m₁ = m := W₁.z
  subst hm
  have sub : Sub pu' ((D, LCg.lst ys) :: pu') := fun q hq => List.mem_cons_of_mem _ hq
  have pm : List.Perm (LED ((D, LCg.lst ys) :: fr) ((C, oC) :: own) tb₁ chs₁ pu') (LED ((C, oC) :: fr) own tb₁ chs₁ ((D, LCg.lst ys) :: pu')) := by
    have e1 : List.Perm (LED ((D, LCg.lst ys) :: fr) ((C, oC) :: own) tb₁ chs₁ pu') ((C, oC) :: LED ((D, LCg.lst ys) :: fr) own tb₁ chs₁ pu') := List.perm_middle
    refine e1.trans (List.Perm.cons _ ?_)
    have e : fr ++ (own ++ (tb₁ ++ (chs₁.flatten ++ (D, LCg.lst ys) :: pu'))) = (fr ++ (own ++ (tb₁ ++ chs₁.flatten))) ++ (D, LCg.lst ys) :: pu' := by simp
    have e2 : LED ((D, LCg.lst ys) :: fr) own tb₁ chs₁ pu' = (D, LCg.lst ys) :: ((fr ++ (own ++ (tb₁ ++ chs₁.flatten))) ++ pu') := by simp [LED]
    rw [e2]
    show List.Perm _ (fr ++ (own ++ (tb₁ ++ (chs₁.flatten ++ (D, LCg.lst ys) :: pu'))))
    rw [e]
    exact List.perm_middle.symm
  refine ⟨W₁.F, W.z, fun q hq => W₁.N q (pm.mem_iff.mpr hq), ?_, W.ns, W.nm.mono p1 (q1.trans sub), W₁.ms.mono ok (Pre.refl _) sub, ok.TBm sub W₁.tb⟩
  rw [← (pm.map (·.1)).nodup_iff]
  exact W₁.nd
theorem comp_core (P : ParOk G p) (S₁ : SE G d ih) (NT : NoSet ih) (W : SCm G d ih) (Fm : Frm G A sc fenv env h₀ L d) {elt target it : Expr} {ts : List Expr} {pos : Pos} {iv v : V} {vs : List V} {h' : List MO} {st₁ : St} {use : Option (Value → Sem Unit)} {Q : Value → Shared → Prop} (h1 : ih sc (.e it) st = some (.v iv, st₁)) (hok : okComp sc csc st₁.l = true) (h2 : items st₁.h iv = some (vs, h'))
    (h3 : ih csc (.g elt target ts vs []) ⟨compVars csc st₁.l, h'⟩ = some (.v v, st')) (I : Inv G.R Z env h₀ L fr own st ρ pu s.heap)
    (hU : ∀ C oC D ρ3 pu3 s3 mm, Pre ρ ρ3 → Sub pu pu3 → VR G.R ρ3 pu3 v (.ref D) → LCg.NsObj oC mm → Inv G.R Z env h₀ L ((C, oC) :: fr) own ⟨st₁.l, st'.h⟩ ρ3 pu3 s3.heap → Same s s3 → compPost (model G.prog G.w) A noE use Q (.ref D) C (.ok .next) s3) :
    wpAny (model G.prog G.w) A (comprehension (.ListComp elt [⟨target, it, ts, 0⟩] csc pos) csc env (firstIterPos [⟨target, it, ts, 0⟩] pos) (newList []) false (eval it env) use) Q noE s := by
  refine opq fun GG kk => ?_
  obtain ⟨hk, hn⟩ := okComp_iff hok
  obtain ⟨cl, hcl⟩ : ∃ cl, clos env csc.names [] = some cl := clos_some fun q hq hf => Fm.cls _ (Fm.clo _ ((hn q hq).2.2.2.2 hf))
  obtain ⟨res, rfl, hres⟩ := W _ _ _ _ _ _ _ _ _ h3
  refine kk ?_
  refine wpAny_comprehension_free (use := use) rfl (folded_plain ?_) (clos_pure hcl) hk (fun q hq hl => (hn q hq).2.2.2.1 hl) ?_
  · rintro es k q rfl
    rw [NT] at h1; (first | exact Mine.ns h1 | exact Mine.ft h1 | exact Mine.sn h1 | exact Mine.tf h1 | cases h1)
  refine S₁ _ _ _ _ _ h1 A fenv env h₀ L Fm fr own ρ pu s _ I ?_
  intro x ρ' pu' s' p1 q1 vr I' sm
  refine iter_ok P Fm h2 vr I' ?_
  intro I₁ o pu'' T s'' q2 hT hS hsz J sm'
  obtain ⟨m, mm, tb, chs, W2⟩ := J
  refine wpAny_newObj_type (wpAny_newFunctionEnv (fun y hy => (hn y hy).2.2.1) (by intro y hy; simp at hy) (fun h₁ hns₁ hsb₁ => ?_) hk)
  dsimp only at hns₁ hsb₁ ⊢
  have WD := (W2.frCons (I := s''.heap.objs.size) (o := LCg.lst []) (h' := s''.heap.push (LCg.lst [])) (W2.F.push _) (News.push W2.F W2.N _) (fresh_lt (News.lt W2.N))).frSwap
  have hC : (s''.heap.push (LCg.lst [])).objs.size = s''.heap.objs.size + 1 := by rw [Heap.size_push]
  have old : ∀ b ob, (s''.heap.push (LCg.lst [])).get? b = some ob → h₁.get? b = some ob := fun b ob e => hsb₁.extBut b ob (Nat.ne_of_lt (Heap.lt_size e)) (Heap.get?_push_of_some _ e)
  obtain ⟨oC, hoC, hno⟩ := LCg.ns_obj hns₁
  have hCL : (s''.heap.push (LCg.lst [])).objs.size ≠ L := Ne.symm (Nat.ne_of_lt WD.F.ns.lt)
  have hC0 : h₀.get? (s''.heap.push (LCg.lst [])).objs.size = none := next_is_new WD.F
  have WC := WD.enter Fm hok hcl old (fresh_lt (News.lt WD.N)) hoC hno hCL hC0
  have hT0 : T 0 h₁ := by
    obtain ⟨fp, P', a, b, c, e⟩ := hT
    refine (a {} rfl).frame 0 s''.heap h₁ hS fun b' _ ob hob => old _ _ (Heap.get?_push_of_some _ hob)
  have loop : ∀ s₃ : Shared, s₃ = { s'' with heap := h₁, toks := s''.toks + ([] : List (Str × Value)).length } →
      codeAny (model G.prog G.w) A (.compLoop (.ListComp elt [⟨target, it, ts, 0⟩] csc pos) 0 (.ref I₁) (.ref s''.heap.objs.size) (compEnvC csc cl (s''.heap.push (LCg.lst [])).objs.size env))
        (compPost (model G.prog G.w) A noE use Q (.ref s''.heap.objs.size) (s''.heap.push (LCg.lst [])).objs.size) s₃ := by
    rintro s₃ rfl
    refine hres _ A fenv _ h₀ L (comp_frm Fm hok hcl) fr own ρ' pu'' _ _ I₁ o _ [] _ oC vs 0 T it csc pos rfl (List.drop_zero ..) (Nat.zero_le _) (Nat.le_refl _) hsz hT hT0 .nil ⟨_, _, _, _, WC⟩ ?_
    intro ρ3 pu3 ys' oC' s3 p3 q3 v3 J3 sm3
    obtain ⟨m₃, mm₃, tb₃, chs₃, W3⟩ := J3
    have W4 := W2.leave P.ok W3 p3 q3
    have sub : Sub pu3 ((s''.heap.objs.size, LCg.lst ys') :: pu3) := fun q hq => List.mem_cons_of_mem _ hq
    exact hU _ oC' _ ρ3 _ s3 mm₃ (p1.trans p3) (((q1.trans q2).trans q3).trans sub) (.lst (List.mem_cons_self ..) (v3.mono (Pre.refl _) sub)) (W3.ownOne rfl).1 ⟨_, _, _, _, W4⟩ ((sm.trans sm').trans (Same.trans (Same.toks s'' h₁ _) sm3))
  obtain ⟨fp, P', a, b, c, e⟩ := hT
  exact codeAny_compStart_list (loop _ rfl) ((a A Fm.hand).self 0 _ _ _ hT0 (loop _ rfl))
theorem Inv.frEnd {R : Rc} {h h' : Heap} {C : Addr} {o : Obj} (J : Inv R Z env h₀ L ((C, o) :: fr) own st ρ pu h) (hs : Heap.SameBut C h h') : Inv R Z env h₀ L fr own st ρ pu h' := by
  obtain ⟨m, mm, tb, chs, W⟩ := J
  exact ⟨m, mm, tb, chs, W.frEnd fun b ob hb e => (hs.2 b (by simpa using hb)).trans e⟩
theorem e_comp (P : ParOk G p) (S₁ : SE G d ih) (NT : NoSet ih) (W : SCm G d ih) (Fm : Frm G A sc fenv env h₀ L d) {elt target it : Expr} {ts : List Expr} {pos : Pos} {iv v : V} {vs : List V} {h' : List MO} {st₁ : St} {Q : Value → Shared → Prop} (h1 : ih sc (.e it) st = some (.v iv, st₁)) (hok : okComp sc csc st₁.l = true) (h2 : items st₁.h iv = some (vs, h'))
    (h3 : ih csc (.g elt target ts vs []) ⟨compVars csc st₁.l, h'⟩ = some (.v v, st')) (I : Inv G.R Z env h₀ L fr own st ρ pu s.heap) (hQ : EP G.R Z env h₀ L fr own ⟨st₁.l, st'.h⟩ ρ pu s v Q) :
    wpAny (model G.prog G.w) A (eval (.ListComp elt [⟨target, it, ts, 0⟩] csc pos) env) Q noE s := by
  rw [eval_ListComp]
  refine comp_core P S₁ NT W Fm h1 hok h2 h3 I ?_
  intro C oC D ρ3 pu3 s3 mm p3 q3 vr hno J sm
  refine ⟨mm, hno.ns J.frGet, fun h4 hs4 => ?_⟩
  exact hQ _ ρ3 pu3 { s3 with heap := h4 } p3 q3 vr (J.frEnd hs4) (sm.trans (Same.toks s3 h4 s3.toks))
theorem pos_lc {e : Expr} {gs : List Comprehension} {sc : Scope} {p : Pos} : (Expr.ListComp e gs sc p).pos = p := rfl
theorem s_assign_comp (P : ParOk G p) (S₁ : SE G d ih) (NT : NoSet ih) (W : SCm G d ih) (Fm : Frm G A sc fenv fenv h₀ L d) (FF : FnF fenv L sc own) {elt target it : Expr} {ts : List Expr} {y : Str} {py pos ps : Pos} {iv v : V} {vs : List V} {h' : List MO} {st₁ : St} {Q : Flow → Shared → Prop} (hy : sc.names.lookup y = some .local) (hny : csc.names.any (fun n => seq n.1 y) = false) (hline : py.line = pos.line)
    (h1 : ih sc (.e it) st = some (.v iv, st₁)) (hok : okComp sc csc st₁.l = true) (h2 : items st₁.h iv = some (vs, h'))
    (h3 : ih csc (.g elt target ts vs []) ⟨compVars csc st₁.l, h'⟩ = some (.v v, st')) (I : Inv G.R Z0 fenv h₀ L fr own st ρ pu s.heap) (hQ : FP G.R fenv h₀ L fr own ⟨sput y v st₁.l, st'.h⟩ ρ pu s .nx Q) :
    wpAny (model G.prog G.w) A (exec (.Assign [.Name y py] (.ListComp elt [⟨target, it, ts, 0⟩] csc pos) ps) fenv) Q noE s := by
  have hb : fenv.blockKind = .function := by unfold Env.blockKind; rw [Fm.fk]; rfl
  have hsw : swapsWith (.ListComp elt [⟨target, it, ts, 0⟩] csc pos) (some (.Name y py)) ps.line fenv = pure true := by
    have hk : fenv.kindOf y = some .local := Fm.lcl y hy
    have ha : (csc.names.any fun (n, k) => n == y && (k == NameKind.local || k == NameKind.cell)) = false := by
      rw [List.any_eq_false]
      intro q hq
      have := List.any_eq_false.mp hny q hq
      have hne : (q.1 == y) = false := by
        rw [beq_eq_false_iff_ne]
        exact (seq_false _ _).mp (by simpa using this)
      simp only [hne, Bool.false_and]
      exact Bool.false_ne_true
    unfold swapsWith
    simp only [hb, hk, pos_lc, hline]
    rw [ha, show (pos.line == pos.line) = true by simp]
    rfl
  rw [exec_Assign_Name_used _ _ _ _ hsw]
  refine wpAny_bind (wpAny_standAt (wpAny_bind ?_))
  show wpAny _ A (do let _ ← comprehension (.ListComp elt [⟨target, it, ts, 0⟩] csc pos) csc fenv (firstIterPos [⟨target, it, ts, 0⟩] pos) (newList []) false (eval it fenv) (some (assign (.Name y py) fenv))) _ _ s
  refine wpAny_bind (wpAny_mono (comp_core (Q := fun _ s' => Q .next s') P S₁ NT W Fm h1 hok h2 h3 I ?_) (fun _ s' hq => wpAny_pure (wpAny_pure hq)) fun _ _ e => e)
  intro C oC D ρ3 pu3 s3 mm p3 q3 vr hno J sm
  have hms : mayStore sc y = true := by unfold mayStore; rw [slook_eq, hy]
  refine assign_Name (store_ok Fm FF hms vr J fun own' s4 ho J4 sm4 => ?_)
  refine ⟨mm, hno.ns J4.frGet, fun h5 hs5 => ?_⟩
  exact hQ ρ3 pu3 own' { s4 with heap := h5 } p3 q3 ho (J4.frEnd hs5) ((sm.trans sm4).trans (Same.toks s4 h5 s4.toks))
end
end Mine

end
section -- S12
namespace Mine
open PySem PySem.W PySem.Calls PyProof.Rows

inductive BR (R : Rc) (ρ : List Addr) (pu : Led) : List (Str × Value) → List (Str × V) → Prop
  | nil : BR R ρ pu [] []
  | cons {x : Str} {v : Value} {d : V} {bs : List (Str × Value)} {l : List (Str × V)} : VR R ρ pu d v → BR R ρ pu bs l → BR R ρ pu ((x, v) :: bs) ((x, d) :: l)
/-- a scope of a def that is served -/
noncomputable def scOk (sc : Scope) : Bool := (match sc.kind with | .function => true | _ => false) && !sc.isCoroutine && !sc.isGenerator && Nat.ble (cellsFrom 0 sc.names []).length 1 &&
  sc.names.all fun q => !(seq q.1 "__debug__") && (match q.2 with | .free => false | _ => true)
structure FnOk (G : Glb) (a : Addr) (r : FR) : Prop where
  sc : scOk r.sc = true
  nd : r.ps.Nodup
  kd : ∀ x ∈ r.ps, r.sc.names.lookup x = some .local ∨ r.sc.names.lookup x = some .cell
  ex : ∃ name qual params dV kV doc pm an cdv ct oc od osl, G.R.K.lookup a = some ⟨oc, od, .func (fnOf name qual params r.body r.sc dV kV doc pm an cdv ct), osl⟩ ∧ codeIn G.R.K cdv qual = true ∧ (lamSc r.sc = true → ∃ e ∈ G.lamT, cdv = .ref e.1 ∧ qual = e.2.2) ∧
    ∀ args l, bindA r args = some l → ∀ ρ pu vals, VRs G.R ρ pu args vals → ∃ binds, (∀ s : Shared, G.R.K.In s.heap → BindsTo s (fnOf name qual params r.body r.sc dV kV doc pm an cdv ct) ⟨vals, []⟩ binds) ∧ BR G.R ρ pu binds l

section
variable {Z : ZP} {G : Glb} {p : Par} {A : Around} {sc : Scope} {fenv env : Env} {h₀ : Heap} {L : Addr} {d : Nat} {fr own : Led} {st st' : St} {ρ ρ' : List Addr} {pu pu' : Led} {s : Shared} {ih : Ev}

theorem cellsFrom_ge : ∀ {names : List (Str × NameKind)} {n : Nat} {acc : List (Str × Addr)} {q : Str × Addr}, q ∈ cellsFrom n names acc → q ∈ acc ∨ n ≤ q.2
  | [], _, _, _, h => .inl h
  | (x, k) :: r, n, acc, q, h => by
    unfold cellsFrom at h
    (first | (revert h; refine mb (fun _ h => ?_) (fun _ h => ?_)) | split at h)
    · rcases cellsFrom_ge h with h | h
      · rcases List.mem_cons.mp h with rfl | h
        · exact .inr (Nat.le_refl _)
        · exact .inl h
      · exact .inr (Nat.le_of_succ_le h)
    · exact cellsFrom_ge h
theorem cellsAre_addr {cm : Str → Option Value} {cs : List (Str × Addr)} {cells : Led} (h : CellsAre cm cs cells) : cells.map (·.1) = cs.map (·.2) := by
  induction h with
  | nil => rfl
  | cons _ _ ih => simp [ih]
theorem cellsAre_cell {cm : Str → Option Value} {cs : List (Str × Addr)} {cells : Led} (h : CellsAre cm cs cells) : ∀ q ∈ cells, isCell q.2 := by
  induction h with
  | nil => simp
  | cons e _ ih =>
    intro q hq
    rcases List.mem_cons.mp hq with rfl | hq
    · exact ⟨_, e⟩
    · exact ih q hq
theorem cellsAre_get {cm : Str → Option Value} {cs : List (Str × Addr)} {cells : Led} (h : CellsAre cm cs cells) {x : Str} {c : Addr} (e : cs.lookup x = some c) : ∃ o, (c, o) ∈ cells ∧ o.data = .cell (cm x) := by
  induction h with
  | nil => (first | exact Mine.ns e | exact Mine.ft e | exact Mine.sn e | exact Mine.tf e | cases e)
  | cons he _ ih =>
    rw [List.lookup_cons] at e
    (first | (revert e; refine mb (fun _ e => ?_) (fun _ e => ?_)) | split at e)
    · rename_i hx
      (first | exact Mine.ns e | exact Mine.ft e | exact Mine.sn e | exact Mine.tf e | cases e)
      rw [beq_iff_eq.mp hx]
      exact ⟨_, List.mem_cons_self .., he⟩
    · obtain ⟨o, a, b⟩ := ih e
      exact ⟨o, List.mem_cons_of_mem _ a, b⟩
theorem bindL_miss {k : Str → Option NameKind} {x : Str} : ∀ {bs : List (Str × Value)} {m : Str → Option Value}, x ∉ bs.map (·.1) → bindL k bs m x = m x
  | [], _, _ => rfl
  | (n, v) :: r, m, h => by
    unfold bindL
    rw [bindL_miss (fun q => h (List.mem_cons_of_mem _ q))]
    have hx : x ≠ n := fun q => h (q ▸ List.mem_cons_self ..)
    split
    · exact if_neg hx
    · rfl
theorem bindC_miss {k : Str → Option NameKind} {x : Str} : ∀ {bs : List (Str × Value)} {m : Str → Option Value}, x ∉ bs.map (·.1) → bindC k bs m x = m x
  | [], _, _ => rfl
  | (n, v) :: r, m, h => by
    unfold bindC
    rw [bindC_miss (fun q => h (List.mem_cons_of_mem _ q))]
    have hx : x ≠ n := fun q => h (q ▸ List.mem_cons_self ..)
    split
    · rfl
    · exact if_neg hx
theorem BR.names {R : Rc} {bs : List (Str × Value)} {l : List (Str × V)} (h : BR R ρ pu bs l) : bs.map (·.1) = l.map (·.1) := by
  induction h with
  | nil => rfl
  | cons _ _ ih => simp [ih]
/-- what a parameter's name finds -/
theorem BR.find {R : Rc} {k : Str → Option NameKind} {bs : List (Str × Value)} {l : List (Str × V)} (h : BR R ρ pu bs l) (nd : (l.map (·.1)).Nodup) : ∀ {m₁ m₂ : Str → Option Value} {x : Str} {dv : V}, l.lookup x = some dv →
    ∃ v, VR R ρ pu dv v ∧ (k x = some .local → bindL k bs m₁ x = some v) ∧ (k x ≠ some .local → bindC k bs m₂ x = some v) := by
  induction h with
  | nil => intro m₁ m₂ x dv e; (first | exact Mine.ns e | exact Mine.ft e | exact Mine.sn e | exact Mine.tf e | cases e)
  | @cons y v d bs l hv hr ih =>
    intro m₁ m₂ x dv e
    rw [List.map_cons, List.nodup_cons] at nd
    rw [List.lookup_cons] at e
    (first | (revert e; refine mb (fun _ e => ?_) (fun _ e => ?_)) | split at e)
    · rename_i hx
      (first | exact Mine.ns e | exact Mine.ft e | exact Mine.sn e | exact Mine.tf e | cases e)
      have hx := beq_iff_eq.mp hx
      subst hx
      have hn : x ∉ bs.map (·.1) := by rw [hr.names]; exact nd.1
      refine ⟨v, hv, fun hk => ?_, fun hk => ?_⟩
      · unfold bindL
        rw [bindL_miss hn, if_pos hk]
        exact if_pos rfl
      · unfold bindC
        rw [bindC_miss hn, if_neg hk]
        exact if_pos rfl
    · obtain ⟨v', a, b, c⟩ := ih nd.2 (m₁ := if k y = some .local then fun z => if z = y then some v else m₁ z else m₁) (m₂ := if k y = some .local then m₂ else fun z => if z = y then some v else m₂ z) e
      exact ⟨v', a, b, c⟩
theorem zipL_names : ∀ {ps : List Str} {vs : List V}, ((zipL ps vs).map (·.1)).Sublist ps
  | [], _ => by cases ‹List V› <;> exact List.Sublist.refl _
  | n :: ns, [] => List.nil_sublist _
  | n :: ns, v :: vs => List.Sublist.cons_cons _ zipL_names
theorem bindA_names {r : FR} {args : List V} {l : List (Str × V)} (h : bindA r args = some l) : (l.map (·.1)).Sublist r.ps := by
  unfold bindA at h
  revert h; refine zB fun _ h => ?_
  (first | exact Mine.ns h | exact Mine.ft h | exact Mine.sn h | exact Mine.tf h | cases h); exact zipL_names
theorem scOk_iff (h : scOk sc = true) : sc.kind = .function ∧ sc.isCoroutine = false ∧ sc.isGenerator = false ∧ (cellsFrom 0 sc.names []).length ≤ 1 ∧ ∀ q ∈ sc.names, (q.1 == ("__debug__" : Str)) = false ∧ q.2 ≠ .free := by
  unfold scOk at h
  simp only [Bool.and_eq_true] at h
  obtain ⟨⟨⟨⟨h1, h2⟩, h3⟩, h4⟩, h5⟩ := h
  refine ⟨by revert h1; cases sc.kind <;> simp, by simpa using h2, by simpa using h3, Nat.le_of_ble_eq_true h4, fun q hq => ?_⟩
  have := (List.all_eq_true.mp h5) q hq
  replace this := and2 this
  obtain ⟨a, b⟩ := this
  refine ⟨by rw [beq_eq_false_iff_ne]; exact (seq_false _ _).mp (by simpa using a), ?_⟩
  intro e; rw [e] at b; (first | exact Mine.ns b | exact Mine.ft b | exact Mine.sn b | exact Mine.tf b | cases b)
/-- what a call needs of the caller -/
structure Clr (G : Glb) (A : Around) (fenv : Env) (h₀ : Heap) (L : Addr) (d : Nat) : Prop where
  below : ∃ A₀ base outer, Below A₀ base outer h₀ ∧ A.frames = some (fenv :: outer)
  fl : fenv.frame = some L
  fk : fenv.scope.kind = .function
  kin : G.R.K.In h₀
  top : Top G.p G.loose G.mean G.mg G.mb h₀
  hand : A.handled = none
  depth : A.depth + 1 + 2 * d + 10 ≤ 900
  units : A.units + 3 + 8 * d + 200 ≤ 9900
theorem Frm.clr (Fm : Frm G A sc fenv env h₀ L (d + 1)) : Clr G A fenv h₀ L d :=
  ⟨Fm.below, Fm.fl, Fm.fk, Fm.kin, Fm.top, Fm.hand, by have := Fm.depth; lia, by have := Fm.units; lia⟩
theorem def_frm {a : Addr} {cdv : Value} {qual : Str} {g : Heap} {L' : Addr} (Fm : Clr G A fenv h₀ L d) {csc : Scope} (hs : scOk csc = true) (hlm : lamSc csc = true → ∃ e ∈ G.lamT, cdv = .ref e.1 ∧ qual = e.2.2) (B : ∃ base outer, Below A base outer g ∧ A.frames = some outer) (X : G.R.K.In g) (T : Top G.p G.loose G.mean G.mg G.mb g) :
    Frm G (A.deeper (envOfC qual csc L' a cdv)) csc (envOfC qual csc L' a cdv) (envOfC qual csc L' a cdv) g L' d := by
  obtain ⟨hk, hc, hg, hl, hn⟩ := scOk_iff hs
  obtain ⟨base, outer, B, hA⟩ := B
  refine { below := ⟨A, base, outer, B, ?_⟩, fl := rfl, fk := hk, kin := X, top := T, hand := Fm.hand, depth := ?_, units := ?_, ek := hk, eg := rfl, eb := rfl, glo := fun _ h => h, lcl := fun _ h => h, clo := fun _ h => h, cls := ?_, dbg := ?_, fe := ?_ }
  · show A.frames.map _ = _
    rw [hA]; rfl
  · have := Fm.depth
    show (A.depth + 1) + 2 * d + 10 ≤ 900
    lia
  · have := Fm.units
    show (A.units + 3) + 8 * d + 200 ≤ 9900
    lia
  · intro x hx
    have hx : csc.names.lookup x = some .cell ∨ csc.names.lookup x = some .free := hx
    rcases hx with hx | hx
    · exact Option.isSome_iff_exists.mp (cellsFrom_some _ _ _ (.inl hx))
    · exact absurd rfl (hn _ (lookup_memL hx)).2
  · intro x k hx
    exact (hn _ (lookup_memL hx)).1
  · intro h
    obtain ⟨e, he, rfl, rfl⟩ := hlm h
    exact ⟨e, he, csc, a, _, rfl⟩
end
end Mine

end
section -- S13
namespace Mine
open PySem PySem.W PySem.Calls PyProof.Rows

noncomputable def flV : Fl → V
  | .nx => .none
  | .ret v => v
section
variable {Z : ZP} {G : Glb} {p : Par} {A : Around} {sc : Scope} {fenv env : Env} {h₀ : Heap} {L : Addr} {d : Nat} {fr own : Led} {st st' : St} {ρ ρ' : List Addr} {pu pu' : Led} {s : Shared} {ih : Ev}

theorem c_funC (B : SSt G d ih) (Fm : Clr G A fenv h₀ L d) {a : Addr} {r : FR} (K : FnOk G a r) {args : List V} {vals : List Value} {l : List (Str × V)} {fl : Fl} {st₂ : St} {RR : Result → Shared → Prop}
    (hb : bindA r args = some l) (h1 : ih r.sc (.s r.body) ⟨l, st.h⟩ = some (.f fl, st₂)) (I : Inv G.R Z env h₀ L fr own st ρ pu s.heap) (hv : VRs G.R ρ pu args vals)
    (hQ : EP G.R Z env h₀ L fr own ⟨st.l, st₂.h⟩ ρ pu s (flV fl) (fun v s' => RR (.ok (.ret v)) s')) : codeAny (model G.prog G.w) A (.call (.ref a) ⟨vals, []⟩) RR s := by
  refine opq fun GG kk => ?_
  obtain ⟨name, qual, params, dV, kV, doc, pm, an, cdv, ct, oc, od, osl, hK, hcd, hlm, hbind⟩ := K.ex
  obtain ⟨binds, hB, hbr⟩ := hbind args l hb ρ pu vals hv
  obtain ⟨hk, hco, hg, hlen, hn⟩ := scOk_iff K.sc
  obtain ⟨A₀, base, outer, B₀, hA⟩ := Fm.below
  obtain ⟨m, mm, tb, chs, W⟩ := I
  have lnames := bindA_names hb
  have lnd : (l.map (·.1)).Nodup := lnames.nodup K.nd
  have hkd : ∀ x ∈ binds, r.sc.names.lookup x.1 = some .local ∨ r.sc.names.lookup x.1 = some .cell := by
    intro x hx
    refine K.kd _ (lnames.subset ?_)
    rw [← hbr.names]
    exact List.mem_map_of_mem hx
  have hcn : ∀ n, (cellsFrom n r.sc.names []).length ≤ 1 := by
    intro n
    have := congrArg List.length (cellsFrom_names r.sc.names 0 n [] [] rfl)
    rw [List.length_map, List.length_map] at this
    lia
  refine kk ?_
  refine (code_defC B₀ W.F Fm.kin W.N Fm.top hA Fm.fl Fm.fk hK hcd ?_ (hB s (Fm.kin.keeps W.F.keep)) ?_ ?_ ?_ hco hg hk)
  · have := Fm.depth
    show A.depth < 1000
    lia
  · rw [List.all_eq_true]
    intro x hx
    rcases hkd x hx with h | h <;> rw [h] <;> rfl
  · have := hcn 0
    cases e : cellsFrom 0 r.sc.names [] with
    | nil => simp
    | cons q t =>
      cases t with
      | nil => simp
      | cons _ _ => rw [e] at this; simp at this
  · intro g L' h₁ tk cells FG F' N' CA B' X' T' hlt
    have addr := cellsAre_addr CA
    have clen : cells.length ≤ 1 := by
      have := congrArg List.length addr
      rw [List.length_map, List.length_map] at this
      have h2 := hcn (L' + 1)
      lia
    have cge : ∀ q ∈ cells, L' < q.1 := by
      intro q hq
      have : q.1 ∈ cells.map (·.1) := List.mem_map_of_mem hq
      rw [addr] at this
      obtain ⟨y, hy, e⟩ := List.mem_map.mp this
      rcases cellsFrom_ge hy with h | h
      · (first | exact Mine.ns h | exact Mine.ft h | exact Mine.sn h | exact Mine.tf h | cases h)
      · rw [← e]; exact h
    have pm : List.Perm (LED (fr ++ own) cells tb chs pu) (cells ++ LED fr own tb chs pu) := by
      have e1 : LED (fr ++ own) cells tb chs pu = (fr ++ own) ++ (cells ++ (tb ++ (chs.flatten ++ pu))) := rfl
      have e2 : cells ++ LED fr own tb chs pu = (cells ++ (fr ++ own)) ++ (tb ++ (chs.flatten ++ pu)) := by simp [LED]
      rw [e1, e2, ← List.append_assoc]
      exact List.Perm.append_right _ List.perm_append_comm
    have W' : InvW G.R Z0 (envOfC qual r.sc L' a cdv) g L' (fr ++ own) cells ⟨l, st.h⟩ ρ pu h₁ (bindL (envOfC qual r.sc L' a cdv).kindOf binds fun _ => none) (bindL (envOfC qual r.sc L' a cdv).kindOf binds fun _ => none) tb chs := by
      refine ⟨F', trivial, fun q hq => N' q (pm.mem_iff.mp hq), ?_, .inl ⟨rfl, rfl⟩, ?_, W.ms, W.tb⟩
      · rw [(pm.map (·.1)).nodup_iff, List.map_append, List.nodup_append]
        refine ⟨?_, W.nd, ?_⟩
        · cases cells with
          | nil => simp
          | cons q t =>
            cases t with
            | nil => simp
            | cons _ _ => simp at clen
        · rintro x hx y hy rfl
          obtain ⟨q, hq, rfl⟩ := List.mem_map.mp hx
          obtain ⟨q', hq', e⟩ := List.mem_map.mp hy
          have h1 := cge q hq
          have h2 := hlt q' hq'
          rw [e] at h2
          exact absurd (Nat.lt_trans h1 h2) (Nat.lt_irrefl _)
      · intro x dv hx
        have hx : l.lookup x = some dv := hx
        obtain ⟨v, hvr, hl, hc⟩ := hbr.find (k := (envOfC qual r.sc L' a cdv).kindOf) (m₁ := fun _ => none) (m₂ := fun _ => none) lnd hx
        have hmem : x ∈ r.ps := lnames.subset (List.mem_map_of_mem (f := (·.1)) (lookup_memL hx))
        rcases K.kd x hmem with hk | hk
        · have hk' : (envOfC qual r.sc L' a cdv).kindOf x = some .local := hk
          exact .inl ⟨hk', v, hl hk', hvr⟩
        · have hk' : (envOfC qual r.sc L' a cdv).kindOf x = some .cell := hk
          have hs : ((cellsFrom (L' + 1) r.sc.names []).lookup x).isSome = true := cellsFrom_some _ _ _ (.inl hk)
          obtain ⟨c, hcc⟩ := Option.isSome_iff_exists.mp hs
          obtain ⟨o, ho, hod⟩ := cellsAre_get CA hcc
          refine .inr ⟨.inl hk', c, o, v, hcc, List.mem_append_left _ ho, ?_, hvr⟩
          rw [hod, hc (by rw [hk']; simp)]
    have Fm' := def_frm (a := a) (cdv := cdv) (qual := qual) (L' := L') Fm K.sc hlm ⟨base, fenv :: outer, B', hA⟩ X' T'
    have FF : FnF (envOfC qual r.sc L' a cdv) L' r.sc cells := by
      refine ⟨rfl, rfl, fun _ => rfl, addr.symm, hcn _, fun x hx => ?_, cellsAre_cell CA⟩
      exact Fm'.cls x (.inl hx)
    have leave : ∀ {own'' : Led} {ρ' : List Addr} {pu' : Led} {s' : Shared} {v : Value}, Pre ρ ρ' → Sub pu pu' → VR G.R ρ' pu' (flV fl) v → Inv G.R Z0 (envOfC qual r.sc L' a cdv) g L' (fr ++ own) own'' st₂ ρ' pu' s'.heap → Same { s with heap := h₁, toks := tk } s' →
        LeaveK h₀ L m g RR v s' := by
      intro own'' ρ' pu' s' v p1 q1 vr J sm
      obtain ⟨m', mm', tb', chs', W2⟩ := J
      refine leaveK_ W2.F W2.N fun F2 N2 => ?_
      have pm2 : List.Perm (LED (fr ++ own) own'' tb' chs' pu') (own'' ++ LED fr own tb' chs' pu') := by
        have e1 : LED (fr ++ own) own'' tb' chs' pu' = (fr ++ own) ++ (own'' ++ (tb' ++ (chs'.flatten ++ pu'))) := rfl
        have e2 : own'' ++ LED fr own tb' chs' pu' = (own'' ++ (fr ++ own)) ++ (tb' ++ (chs'.flatten ++ pu')) := by simp [LED]
        rw [e1, e2, ← List.append_assoc]
        exact List.Perm.append_right _ List.perm_append_comm
      have nd2 : ((LED fr own tb' chs' pu').map (·.1)).Nodup := by
        have := W2.nd
        rw [(pm2.map (·.1)).nodup_iff, List.map_append, List.nodup_append] at this
        exact this.2.1
      exact hQ v ρ' pu' s' p1 q1 vr ⟨m, mm, tb', chs', F2, W.z, fun q hq => N2 q (pm2.mem_iff.mpr (List.mem_append_right _ hq)), nd2, W.ns, W.nm.mono p1 q1, W2.ms, W2.tb⟩ (Same.trans (Same.toks s h₁ tk) sm)
    refine wpAny_mono (B _ _ _ _ _ h1 _ _ g L' Fm' (fr ++ own) cells ρ pu { s with heap := h₁, toks := tk } (fun fl s' => LeaveK h₀ L m g RR (match fl with | .ret v => v | _ => .none) s') FF ⟨_, _, tb, chs, W'⟩ ?_) (fun _ _ x => x) fun _ _ x => x.elim
    cases fl with
    | nx =>
      intro ρ' pu' own' s' p1 q1 _ J sm
      exact leave p1 q1 .none J sm
    | ret v =>
      intro v' ρ' pu' own' s' p1 q1 _ vr J sm
      exact leave p1 q1 vr J sm
theorem c_fun (B : SSt G d ih) (Fm : Frm G A sc fenv env h₀ L (d + 1)) {a : Addr} {r : FR} (K : FnOk G a r) {args : List V} {vals : List Value} {l : List (Str × V)} {fl : Fl} {st₂ : St} {Q : Value → Shared → Prop}
    (hb : bindA r args = some l) (h1 : ih r.sc (.s r.body) ⟨l, st.h⟩ = some (.f fl, st₂)) (I : Inv G.R Z env h₀ L fr own st ρ pu s.heap) (hv : VRs G.R ρ pu args vals)
    (hQ : EP G.R Z env h₀ L fr own ⟨st.l, st₂.h⟩ ρ pu s (flV fl) Q) : wpAny (model G.prog G.w) A (call (.ref a) vals []) Q noE s :=
  wpAny_call (c_funC B Fm.clr K hb h1 I hv hQ)
end
end Mine

end
section -- S14
namespace Mine
open PySem PySem.W PySem.Calls PyProof.Rows

structure ClOk (G : Glb) (a i : Addr) : Prop where
  mks : makesIn G.R.K a = true
  ini : findIn G.R.K (.ref a) "__init__" = some (some (.ref i))
  fn : isFn G.R.K (.ref i) = true
section
variable {Z : ZP} {G : Glb} {p : Par} {A : Around} {sc : Scope} {fenv env : Env} {h₀ : Heap} {L : Addr} {d : Nat} {fr own : Led} {st st' : St} {ρ ρ' : List Addr} {pu pu' : Led} {s : Shared} {ih : Ev}

theorem under_clr {C : Addr} {vals : List Value} (Fm : Frm G A sc fenv env h₀ L (d + 1)) : Clr G (A.under (.builtin "type.__call__" ⟨.ref C :: vals, []⟩)) fenv h₀ L d := by
  obtain ⟨A₀, base, outer, B, hA⟩ := Fm.below
  refine ⟨⟨A₀, base, outer, B, ?_⟩, Fm.fl, Fm.fk, Fm.kin, Fm.top, Fm.hand, ?_, ?_⟩
  · exact hA
  · have := Fm.depth
    show A.depth + 1 + 1 + 2 * d + 10 ≤ 900
    lia
  · have := Fm.units
    show A.units + 1 + 3 + 8 * d + 200 ≤ 9900
    lia
set_option tactic.hygienic true in
theorem c_cls (P : ParOk G p) (B : SSt G d ih) (Fm : Frm G A sc fenv env h₀ L (d + 1)) {a i : Addr} {r : FR} (KC : ClOk G a i) (K : FnOk G i r) {args : List V} {vals : List Value} {l : List (Str × V)} {fl : Fl} {st₂ : St} {v : V} {h₂ : List MO} {fz : Bool} {Q : Value → Shared → Prop}
    (hb : bindA r (.loc st.h.length :: args) = some l) (h1 : ih r.sc (.s r.body) ⟨l, st.h ++ [.obj a [] []]⟩ = some (.f fl, st₂)) (hfl : noneFl fl = true)
    (h2 : (match fz with
      | true => (match st₂.h[st.h.length]? with
        | some (.obj C ns vs) => some (V.obj C ns vs, st₂.h.set st.h.length .dead)
        | _ => none)
      | false => some (.loc st.h.length, st₂.h)) = some (v, h₂))
    (I : Inv G.R Z env h₀ L fr own st ρ pu s.heap) (hv : VRs G.R ρ pu args vals)
    (hQ : EP G.R Z env h₀ L fr own ⟨st.l, h₂⟩ ρ pu s v Q) : wpAny (model G.prog G.w) A (call (.ref a) vals []) Q noE s := by
  refine opq fun GG kk => ?_
  have hfv : flV fl = .none := by
    cases fl with
    | nx => rfl
    | ret v => (first | exact Mine.ns v | exact Mine.ft v | exact Mine.sn v | exact Mine.tf v | cases v) <;> first | rfl | (first | exact Mine.ns hfl | exact Mine.ft hfl | exact Mine.sn hfl | exact Mine.tf hfl | cases hfl)
  obtain ⟨m, mm, tb, chs, W⟩ := I
  have hlen := W.ms.len.1
  refine kk ?_
  refine call_cls W.F Fm.kin W.N KC.mks KC.ini KC.fn fun x dx h' F' N' hlt hdx => ?_
  have W' := W.snoc (a := x) (c := [(x, instObj a dx), (dx, dictOf [] 0)]) (mo := .obj a [] []) P.ok F' N' (by
      simp only [List.map_cons, List.map_nil, List.nodup_cons, List.mem_singleton, List.not_mem_nil, not_false_eq_true, List.nodup_nil, and_true]
      exact Ne.symm (Nat.ne_of_lt hdx)) (by
      intro q hq
      rcases List.mem_cons.mp hq with rfl | hq
      · exact fresh_lt fun p hp => Nat.lt_trans (hlt p hp) hdx
      · rw [List.mem_singleton.mp hq]
        exact fresh_lt hlt) (.obj .nil)
  have hloc : VR G.R (ρ ++ [x]) pu (.loc st.h.length) (.ref x) := .loc (by rw [← hlen]; simp)
  refine c_funC (s := { s with heap := h' }) B (under_clr Fm) K hb h1 ⟨_, _, _, _, W'⟩ (.cons hloc (hv.mono (Pre.snoc ρ x) (Sub.refl _))) ?_
  rw [hfv]
  intro v' ρ' pu' s' p1 q1 vr J sm
  obtain rfl := vr.none_inv; clear vr
  refine ⟨rfl, ?_⟩
  have hx' : ρ'[st.h.length]? = some x := p1 _ _ (by rw [← hlen]; simp)
  have sm' : Same s s' := Same.trans (Same.toks s h' s.toks) sm
  cases fz with
  | false =>
    (first | exact Mine.ns h2 | exact Mine.ft h2 | exact Mine.sn h2 | exact Mine.tf h2 | cases h2)
    exact hQ _ ρ' pu' s' ((Pre.snoc ρ x).trans p1) q1 (.loc hx') J sm'
  | true =>
    simp only [] at h2
    (first | (revert h2; refine mb (fun _ h2 => ?_) (fun _ h2 => ?_)) | split at h2)
    · rename_i C ns vs hn
      obtain ⟨rfl, rfl⟩ := oPi h2
      obtain ⟨m₂, mm₂, tb₂, chs₂, W2⟩ := J
      obtain ⟨a₂, c, e1, e2, e3, e4⟩ := W2.ms.at hn
      rw [hx'] at e1
      have e1 := (Option.some.inj e1).symm
      subst e1
      have W3 := W2.freeze P.ok hn e2 (e4 .dead [] .dead)
      obtain ⟨_, _, _, rfl, hr⟩ := e3.obj_inv; clear e3
      rename_i dx es n
      have sub : Sub pu' ([(a₂, instObj C dx), (dx, dictOf es n)] ++ pu') := fun q hq => List.mem_append_right _ hq
      exact hQ _ ρ' _ s' ((Pre.snoc ρ a₂).trans p1) (q1.trans sub) (.obj (List.mem_append_left _ (List.mem_cons_self ..)) (List.mem_append_left _ (List.mem_cons_of_mem _ (List.mem_cons_self ..))) (hr.mono (Pre.refl _) sub)) ⟨_, _, _, _, W3⟩ sm'
    · (first | exact Mine.ns h2 | exact Mine.ft h2 | exact Mine.sn h2 | exact Mine.tf h2 | cases h2)
end
end Mine

end
section -- S15
namespace Mine
open PySem PySem.W PySem.Calls PyProof.Rows

/-- a callable's own rule -/
noncomputable def CallsTo (G : Glb) (d : Nat) (x : Value) (args : List V) (kw : Option V) (st : St) (v : V) (h' : List MO) (VRf : List Addr → Led → Prop) : Prop :=
  ∀ A sc fenv env h₀ L, Frm G A sc fenv env h₀ L d → ∀ (Z : ZP) fr own ρ pu s vals kws Q, Inv G.R Z env h₀ L fr own st ρ pu s.heap → VRf ρ pu → VRs G.R ρ pu args vals → KwR G.R ρ pu kw kws →
    EP G.R Z env h₀ L fr own ⟨st.l, h'⟩ ρ pu s v Q → wpAny (model G.prog G.w) A (call x vals kws) Q noE s
/-- the built-ins' rules -/
noncomputable def BiOk (G : Glb) (p : Par) : Prop := ∀ d k args kw st v st', biCall p k args kw st = some (v, st') → st'.l = st.l ∧ CallsTo G (d + 1) (biV k) args kw st v st'.h (fun _ _ => True)
/-- the summaries' rules -/
noncomputable def SgOk (G : Glb) (p : Par) : Prop := ∀ d a args h v h', p.sd ≤ d → p.sg a args h = some (v, h') → ∀ l, CallsTo G (d + 1) (.ref a) args none ⟨l, h⟩ v h' (fun _ _ => True)
/-- the closures' rule -/
noncomputable def ClosOk (G : Glb) : Prop := ∀ d ih, SE G d ih → ∀ ps body sc args st v st', ps.length = args.length → cloOk ps sc = true → ih sc (.e body) ⟨zipL ps args, st.h⟩ = some (.v v, st') → ∀ x, CallsTo G (d + 1) x args none st v st'.h (fun ρ pu => VR G.R ρ pu (.clo ps body sc) x)
structure CodeOk (G : Glb) (p : Par) : Prop where
  ft : ∀ a r, p.ft a = some r → FnOk G a r
  ci : ∀ a i fz, p.ci a = some (i, fz) → ClOk G a i

section
variable {G : Glb} {p : Par} {d : Nat} {ih : Ev}
set_option tactic.hygienic true in
theorem c_call (P : ParOk G p) (C : CodeOk G p) (Bi : BiOk G p) (Sg : SgOk G p) (Cl : ClosOk G) (S : SE G d ih) (B : SSt G d ih) {f : V} {args : List V} {kw : Option V} {st st' : St} {v : V} (e : callV p d ih f args kw st = some (v, st')) (hkw : (∀ k, f ≠ .bi k) → kw = none) :
    st'.l = st.l ∧ ∀ x, CallsTo G (d + 1) x args kw st v st'.h (fun ρ pu => VR G.R ρ pu f x) := by
  refine opq fun GG kk => ?_
  unfold callV at e
  (first | (revert e; refine mb (fun _ e => ?_) (fun _ e => ?_)) | split at e)
  · rename_i k
    obtain ⟨h1, h2⟩ := Bi d _ _ _ _ _ _ e
    refine kk ?_
    refine ⟨h1, fun x A sc fenv env h₀ L Fm Z fr own ρ pu s vals kws Q I hx hv hk hQ => ?_⟩
    obtain rfl := hx.bi_inv; clear hx
    exact h2 A sc fenv env h₀ L Fm Z fr own ρ pu s vals kws Q I trivial hv hk hQ
  · rename_i ps body sc
    have hkn := hkw (by intro k h; (first | exact Mine.ns h | exact Mine.ft h | exact Mine.sn h | exact Mine.tf h | cases h))
    subst hkn
    revert e; refine zB fun _ e => ?_
    rename_i hl
    replace hl := and2 hl
    revert e; refine zPVSt fun _ _ _ e => ?_
    rename_i w st₂ hx
    obtain ⟨rfl, rfl⟩ := oPi e
    refine kk ?_
    exact ⟨rfl, fun x => Cl d ih S _ _ _ _ _ _ _ (Nat.eq_of_beq_eq_true hl.1) hl.2 (asV_some hx) x⟩
  · rename_i a
    have hkn := hkw (by intro k h; (first | exact Mine.ns h | exact Mine.ft h | exact Mine.sn h | exact Mine.tf h | cases h))
    subst hkn
    (first | (revert e; refine mb (fun _ e => ?_) (fun _ e => ?_)) | split at e)
    · rename_i w h hs
      (first | exact Mine.ns e | exact Mine.ft e | exact Mine.sn e | exact Mine.tf e | cases e)
      revert hs; refine zB fun _ hs => ?_
      rename_i hd
      refine kk ?_
      refine ⟨rfl, fun x A sc fenv env h₀ L Fm Z fr own ρ pu s vals kws Q I hx hv hk hQ => ?_⟩
      obtain rfl := hx.val_inv; clear hx
      exact Sg d _ _ _ _ _ (Nat.le_of_ble_eq_true hd) hs st.l A sc fenv env h₀ L Fm Z fr own ρ pu s vals kws Q I trivial hv hk hQ
    · (first | (revert e; refine mb (fun _ e => ?_) (fun _ e => ?_)) | split at e)
      · rename_i i fz hci
        revert e; refine zOFR fun _ _ e => ?_
        rename_i r hr
        revert e; refine zOLSV fun _ _ e => ?_
        rename_i l hl
        revert e; refine zPFSt fun _ _ _ e => ?_
        rename_i fl st₂ hf
        have hf := asF_some hf
        (first | (revert e; refine mb (fun _ e => ?_) (fun _ e => ?_)) | split at e)
        · rename_i hnf
          (first | (revert e; refine mb (fun _ e => ?_) (fun _ e => ?_)) | split at e)
          · rename_i C' ns vs hn
            obtain ⟨rfl, rfl⟩ := oPi e
            refine kk ?_
            refine ⟨rfl, fun x A sc fenv env h₀ L Fm Z fr own ρ pu s vals kws Q I hx hv hk hQ => ?_⟩
            obtain rfl := hx.val_inv; clear hx
            have hk : kws = [] := hk
            subst hk
            exact c_cls (fz := true) P B Fm (C.ci _ _ _ hci) (C.ft _ _ hr) hl hf hnf (by simp only [hn]) I hv hQ
          · (first | exact Mine.ns e | exact Mine.ft e | exact Mine.sn e | exact Mine.tf e | cases e)
        · rename_i hnf
          obtain ⟨rfl, rfl⟩ := oPi e
          refine kk ?_
          refine ⟨rfl, fun x A sc fenv env h₀ L Fm Z fr own ρ pu s vals kws Q I hx hv hk hQ => ?_⟩
          obtain rfl := hx.val_inv; clear hx
          have hk : kws = [] := hk
          subst hk
          exact c_cls (fz := false) P B Fm (C.ci _ _ _ hci) (C.ft _ _ hr) hl hf hnf rfl I hv hQ
        · (first | exact Mine.ns e | exact Mine.ft e | exact Mine.sn e | exact Mine.tf e | cases e)
      · revert e; refine zOFR fun _ _ e => ?_
        rename_i r hr
        revert e; refine zOLSV fun _ _ e => ?_
        rename_i l hl
        (first | (revert e; refine mb (fun _ e => ?_) (fun _ e => ?_)) | split at e)
        · rename_i st₂ hf
          obtain ⟨rfl, rfl⟩ := oPi e
          refine kk ?_
          refine ⟨rfl, fun x A sc fenv env h₀ L Fm Z fr own ρ pu s vals kws Q I hx hv hk hQ => ?_⟩
          obtain rfl := hx.val_inv; clear hx
          have hk : kws = [] := hk
          subst hk
          exact c_fun (fl := .nx) B Fm (C.ft _ _ hr) hl (asF_some hf) I hv hQ
        · rename_i w st₂ hf
          (first | exact Mine.ns e | exact Mine.ft e | exact Mine.sn e | exact Mine.tf e | cases e)
          refine kk ?_
          refine ⟨rfl, fun x A sc fenv env h₀ L Fm Z fr own ρ pu s vals kws Q I hx hv hk hQ => ?_⟩
          obtain rfl := hx.val_inv; clear hx
          have hk : kws = [] := hk
          subst hk
          exact c_fun (fl := .ret v) B Fm (C.ft _ _ hr) hl (asF_some hf) I hv hQ
        · (first | exact Mine.ns e | exact Mine.ft e | exact Mine.sn e | exact Mine.tf e | cases e)
  · (first | exact Mine.ns e | exact Mine.ft e | exact Mine.sn e | exact Mine.tf e | cases e)
end
end Mine

end
section -- S16
namespace Mine
open PySem PySem.W PySem.Calls PyProof.Rows

section
variable {Z : ZP} {G : Glb} {p : Par} {A : Around} {sc : Scope} {fenv env : Env} {h₀ : Heap} {L : Addr} {d : Nat} {fr own : Led} {st st' : St} {ρ ρ' : List Addr} {pu pu' : Led} {s : Shared} {ih : Ev}

set_option tactic.hygienic true in
/-- an edge of a slice -/
theorem part_ok (S : SE G d ih) (Fm : Frm G A sc fenv env h₀ L d) {x : Option Expr} {ov : Option V} {i : Option Int} {Q : Value → Shared → Prop} (h1 : optV ih sc x st = some (ov, st')) (h2 : intO ov = some i) (I : Inv G.R Z env h₀ L fr own st ρ pu s.heap)
    (hQ : ∀ (q : Option (Int × Tok)) ρ' pu' s', q.map (·.1) = i → Pre ρ ρ' → Sub pu pu' → Inv G.R Z env h₀ L fr own st' ρ' pu' s'.heap → Same s s' → Q (partValue q) s') : wpAny (model G.prog G.w) A (evalPart x env) Q noE s := by
  refine opq fun GG kk => ?_
  unfold optV at h1
  (first | (revert h1; refine mb (fun _ h1 => ?_) (fun _ h1 => ?_)) | split at h1)
  · obtain ⟨rfl, rfl⟩ := oPi h1
    (first | exact Mine.ns h2 | exact Mine.ft h2 | exact Mine.sn h2 | exact Mine.tf h2 | cases h2)
    refine kk ?_
    exact wpAny_evalPart_none (hQ none ρ pu s rfl (Pre.refl _) (Sub.refl _) I (Same.refl s))
  · revert h1; refine zPVSt fun _ _ _ h1 => ?_
    rename_i e v st₂ hv
    obtain ⟨rfl, rfl⟩ := oPi h1
    refine kk ?_
    refine wpAny_evalPart_some (S _ _ _ _ _ (asV_some hv) A fenv env h₀ L Fm fr own ρ pu s _ I ?_)
    intro x ρ' pu' s' p1 q1 vr I' sm
    (first | exact Mine.ns v | exact Mine.ft v | exact Mine.sn v | exact Mine.tf v | cases v) <;> try (first | exact Mine.ns h2 | exact Mine.ft h2 | exact Mine.sn h2 | exact Mine.tf h2 | cases h2)
    rename_i n
    obtain ⟨t, rfl⟩ := vr.int_inv; clear vr
    exact hQ (some (n, t)) ρ' pu' s' rfl p1 q1 I' sm
set_option tactic.hygienic true in
theorem e_slice (S : SE G d ih) (Fm : Frm G A sc fenv env h₀ L d) {x : Str} {xp pos sp : Pos} {a b : Option Expr} {ov : V} {av bv : Option V} {v : V} {st₁ st₂ : St} {Q : Value → Shared → Prop}
    (h1 : ih sc (.e (.Name x xp)) st = some (.v ov, st₁)) (h2 : optV ih sc a st₁ = some (av, st₂)) (h3 : optV ih sc b st₂ = some (bv, st')) (h4 : sliceV ov av bv = some v) (I : Inv G.R Z env h₀ L fr own st ρ pu s.heap)
    (hQ : EP G.R Z env h₀ L fr own st' ρ pu s v Q) : wpAny (model G.prog G.w) A (eval (.Subscript (.Name x xp) (.Slice a b none sp) pos) env) Q noE s := by
  refine opq fun GG kk => ?_
  unfold sliceV at h4
  (first | (revert h4; refine mb (fun _ h4 => ?_) (fun _ h4 => ?_)) | split at h4)
  · rename_i z l u hl hu
    revert h4; refine zB fun _ h4 => ?_
    rename_i hsz
    (first | exact Mine.ns h4 | exact Mine.ft h4 | exact Mine.sn h4 | exact Mine.tf h4 | cases h4)
    have hsz := Nat.le_of_ble_eq_true hsz
    refine kk ?_
    refine wpAny_Subscript_str_slice (S _ _ _ _ _ h1 A fenv env h₀ L Fm fr own ρ pu s _ I ?_)
    intro o ρ1 pu1 s1 p1 q1 vr I1 sm1
    refine part_ok S Fm h2 hl I1 ?_
    intro ql ρ2 pu2 s2 e2 p2 q2 I2 sm2
    refine part_ok S Fm h3 hu I2 ?_
    intro qu ρ3 pu3 s3 e3 p3 q3 I3 sm3
    obtain ⟨t, rfl⟩ := vr.str_inv; clear vr
    refine ⟨z, t, ql, qu, rfl, rfl, rfl, ?_⟩
    have I4 : Inv G.R Z env h₀ L fr own st' ρ3 pu3 (s3.heap.push { cls := .type "slice", data := .fields #[partValue ql, partValue qu, .none] }) := by
      obtain ⟨m, mm, tb, chs, W⟩ := I3
      exact ⟨m, mm, tb, chs, W.again (W.F.push _) fun q hq => (News.push W.F W.N _) q (List.mem_cons_of_mem _ hq)⟩
    have sm : Same s { s3 with heap := s3.heap.push { cls := .type "slice", data := .fields #[partValue ql, partValue qu, .none] } } := ((sm1.trans sm2).trans sm3).trans (Same.toks s3 _ s3.toks)
    unfold sliceMade slicePicked
    rw [e2, e3]
    unfold sliceS at hQ hsz
    by_cases hc : ((PySem.Builtin.Str.strSliceIndices l u 1 z.length).length == z.length) = true
    · rw [hc] at hQ
      rw [if_pos (by simpa using hc)]
      exact hQ _ ρ3 pu3 _ ((p1.trans p2).trans p3) ((q1.trans q2).trans q3) (.str _ _) I4 sm
    · have hc' : ((PySem.Builtin.Str.strSliceIndices l u 1 z.length).length == z.length) = false := by simpa using hc
      rw [hc'] at hQ hsz
      rw [if_neg (by simpa using hc)]
      refine ⟨by rw [sizeLine_eq]; exact Nat.le_trans hsz (by decide), ?_⟩
      exact hQ _ ρ3 pu3 { s3 with heap := s3.heap.push { cls := .type "slice", data := .fields #[partValue ql, partValue qu, .none] }, toks := s3.toks + 1 } ((p1.trans p2).trans p3) ((q1.trans q2).trans q3) (.str _ _) I4 (((sm1.trans sm2).trans sm3).trans (Same.toks s3 _ _))
  · (first | exact Mine.ns h4 | exact Mine.ft h4 | exact Mine.sn h4 | exact Mine.tf h4 | cases h4)
end
end Mine

end
section -- S17
namespace Mine
open PySem PySem.W PySem.Calls PyProof.Rows

noncomputable def BinOk (G : Glb) : Prop := ∀ (h : List MO) (op : Operator) (a b r : V), binV h op a b = some r →
  ∀ A sc fenv env h₀ L d, Frm G A sc fenv env h₀ L d → ∀ {Z : ZP} fr own l ρ pu s x y Q, Inv G.R Z env h₀ L fr own ⟨l, h⟩ ρ pu s.heap → VR G.R ρ pu a x → VR G.R ρ pu b y →
    EP G.R Z env h₀ L fr own ⟨l, h⟩ ρ pu s r Q → wpAny (model G.prog G.w) A (binaryOp op x y) Q noE s
noncomputable def LamOk (G : Glb) : Prop := ∀ sc a b lsc pos, (lamSc sc && simpleArgs a && okFree sc lsc) = true →
  ∀ A fenv env h₀ L d, Frm G A sc fenv env h₀ L d → ∀ {Z : ZP} fr own st ρ pu s Q, Inv G.R Z env h₀ L fr own st ρ pu s.heap →
    EP G.R Z env h₀ L fr own st ρ pu s (match hasFree lsc with | true => .any | false => .clo (argNames a) b lsc) Q → wpAny (model G.prog G.w) A (eval (.Lambda a b lsc pos) env) Q noE s
noncomputable def KeyOk (G : Glb) (p : Par) : Prop := ∀ d ih, SE G d ih → SCl G d ih → NoStar ih → ∀ sc f x kn kx kp pos st fv st₁ vs st₂ kv st₃ v st', (∀ o a q, f ≠ .Attribute o a q) → seq kn "key" = true → ih sc (.e f) st = some (.v fv, st₁) → calB p fv = true → evs ih sc [x] st₁ = some (vs, st₂) →
  ih sc (.e kx) st₂ = some (.v kv, st₃) → ih sc (.c fv vs (some kv)) st₃ = some (.v v, st') →
  ∀ A fenv env h₀ L, Frm G A sc fenv env h₀ L d → ∀ {Z : ZP} fr own ρ pu s Q, Inv G.R Z env h₀ L fr own st ρ pu s.heap → EP G.R Z env h₀ L fr own st' ρ pu s v Q → wpAny (model G.prog G.w) A (eval (.Call f [x] [⟨some kn, kx, kp⟩] pos) env) Q noE s
structure Prims (G : Glb) (p : Par) : Prop where
  par : ParOk G p
  cmp : CmpOk G p
  att : AttOk G p
  set : SetOk G p
  met : MetOk G p
  sub : SubOk G p
  bin : BinOk G
  lam : LamOk G
  key : KeyOk G p
  bi : BiOk G p
  sg : SgOk G p
  cl : ClosOk G
  code : CodeOk G p
structure Snd (G : Glb) (d : Nat) (ih : Ev) : Prop where
  e : SE G d ih
  t : STt G d ih
  s : SSt G d ih
  w : SWh G d ih
  f : SFo G d ih
  g : SCm G d ih
  c : SCl G d ih
  ns : NoStar ih
  nt : NoSet ih
theorem Inv.lens {R : Rc} {Z : ZP} {env : Env} {h₀ : Heap} {L : Addr} {fr own : Led} {st : St} {ρ : List Addr} {pu : Led} {h : Heap} (I : Inv R Z env h₀ L fr own st ρ pu h) : ρ.length = st.h.length := by
  obtain ⟨m, mm, tb, chs, W⟩ := I
  exact W.ms.len.1
set_option tactic.hygienic true in
theorem compV_some {ih : Ev} {sc csc : Scope} {elt target it : Expr} {ts : List Expr} {st st' : St} {v : V} (h : compV ih sc elt target it ts csc st = some (v, st')) :
    ∃ iv st₁ vs h' st₂, ih sc (.e it) st = some (.v iv, st₁) ∧ okComp sc csc st₁.l = true ∧ items st₁.h iv = some (vs, h') ∧ ih csc (.g elt target ts vs []) ⟨compVars csc st₁.l, h'⟩ = some (.v v, st₂) ∧ st' = ⟨st₁.l, st₂.h⟩ := by
  unfold compV at h
  revert h; refine zPVSt fun _ _ _ h => ?_
  rename_i iv st₁ h1
  (first | (revert h; refine mb (fun _ h => ?_) (fun _ h => ?_)) | split at h)
  · rename_i vs h' hok hi
    (first | (revert h; refine mb (fun _ h => ?_) (fun _ h => ?_)) | split at h)
    · rename_i w st₂ h3
      obtain ⟨rfl, rfl⟩ := oPi h
      exact ⟨iv, st₁, vs, h', st₂, asV_some h1, hok, hi, h3, rfl⟩
    · (first | exact Mine.ns h | exact Mine.ft h | exact Mine.sn h | exact Mine.tf h | cases h)
  · (first | exact Mine.ns h | exact Mine.ft h | exact Mine.sn h | exact Mine.tf h | cases h)
set_option tactic.hygienic true in
theorem e_all {G : Glb} {p : Par} (K : Prims G p) {d : Nat} {ih : Ev} (H : Snd G d ih) : SE G d (stepA p ih) := by
  intro sc x st v st' e A fenv env h₀ L Fm Z fr own ρ pu s Q I hQ
  replace e : evE p ih sc st x = some (.v v, st') := e
  refine opq fun GG kk => ?_
  unfold evE at e
  have hk := kSpec x
  generalize kindE x = k at hk e
  (first | exact Mine.ns hk | exact Mine.ft hk | exact Mine.sn hk | exact Mine.tf hk | cases hk) <;> dsimp only at e
  · revert e; refine zOV fun _ _ e => ?_
    rename_i h1; revert hQ; apply oV e; intro hQ; refine kk ?_; exact e_const h1 I hQ
  · revert e; refine zOV fun _ _ e => ?_
    rename_i h1; revert hQ; apply oV e; intro hQ; refine kk ?_; exact e_name K.par Fm h1 I hQ
  · revert e; refine zB fun _ e => ?_
    rename_i hl
    revert e; refine zPLVSt fun _ _ _ e => ?_
    rename_i h1; revert hQ; apply oV e; intro hQ; refine kk ?_; exact e_tuple K.par H.e H.ns Fm (Nat.le_of_ble_eq_true hl) h1 I hQ
  · revert hQ; apply oV e; intro hQ; refine kk ?_; exact e_nil K.par I I.lens hQ
  · revert e; refine zB fun _ e => ?_
    rename_i hl
    revert e; refine zPLVSt fun _ _ _ e => ?_
    rename_i h1; revert hQ; apply oV e; intro hQ; refine kk ?_; exact e_list K.par H.e H.ns Fm (Nat.succ_le_succ (Nat.le_of_ble_eq_true hl)) h1 I hQ
  · revert hQ; apply oV e; intro hQ; refine kk ?_; exact e_dict I hQ
  · -- binop
    revert e; refine zPVSt fun _ _ _ e => ?_
    rename_i h1
    revert e; refine zPVSt fun _ _ _ e => ?_
    rename_i h2
    revert e; refine zOV fun _ _ e => ?_
    rename_i h3
    revert hQ; apply oV e; intro hQ
    exact kk (e_binop H.e Fm (fun ρ' pu' s' x y p1 q1 vx vy I' hQ' => K.bin _ _ _ _ _ h3 A sc fenv env h₀ L d Fm fr own _ ρ' pu' s' x y Q I' vx vy hQ') (asV_some h1) (asV_some h2) I hQ)
  · -- not
    revert e; refine zPVSt fun _ _ _ e => ?_
    rename_i h1
    (first | (revert e; refine mb (fun _ e => ?_) (fun _ e => ?_)) | split at e)
    · rename_i h2
      revert hQ; apply oV e; intro hQ
      obtain rfl := tv_inv h2
      exact kk (e_not H.e Fm (asV_some h1) I hQ)
    · (first | exact Mine.ns e | exact Mine.ft e | exact Mine.sn e | exact Mine.tf e | cases e)
  · -- minus
    (first | (revert e; refine mb (fun _ e => ?_) (fun _ e => ?_)) | split at e)
    · rename_i h1
      revert hQ; apply oV e; intro hQ
      exact kk (e_neg H.e Fm (asV_some h1) I hQ)
    · (first | exact Mine.ns e | exact Mine.ft e | exact Mine.sn e | exact Mine.tf e | cases e)
  · -- boolop
    unfold outV at e
    revert e; refine zPVSt fun _ _ _ e => ?_
    rename_i h1
    revert hQ; apply oV e; intro hQ
    refine kk ?_
    rw [arm_eval_BoolOp]
    exact boolV_ok H.e Fm _ h1 I hQ
  · -- ifexp
    (first | (revert e; refine mb (fun _ e => ?_) (fun _ e => ?_)) | split at e)
    · rename_i h1
      exact kk (e_ifexp (c := true) H.e H.t Fm (asB_some h1) e I hQ)
    · rename_i h1
      exact kk (e_ifexp (c := false) H.e H.t Fm (asB_some h1) e I hQ)
    · (first | exact Mine.ns e | exact Mine.ft e | exact Mine.sn e | exact Mine.tf e | cases e)
  · -- compare
    revert e; refine zBnf fun _ e => ?_
    rename_i hm
    revert e; refine zPVSt fun _ _ _ e => ?_
    rename_i h1
    revert e; refine zPBSt fun _ _ _ e => ?_
    rename_i h2
    revert hQ; apply oV e; intro hQ
    exact kk (e_compare K.cmp H.e Fm hm (asV_some h1) h2 I hQ)
  · -- method
    revert e; refine zB fun _ e => ?_
    rename_i hb
    replace hb := and3 hb
    obtain ⟨⟨hb1, hb2⟩, hb3⟩ := hb
    revert e; refine zPVSt fun _ _ _ e => ?_
    rename_i h1
    revert e; refine zPVB fun _ _ _ e => ?_
    rename_i h2
    revert e; refine zB fun _ e => ?_
    rename_i h3
    revert e; refine zPLVSt fun _ _ _ e => ?_
    rename_i h4
    exact kk (e_meth K.par K.met H.e H.c H.ns Fm hb1 (Nat.le_of_ble_eq_true hb2) (Nat.eq_of_beq_eq_true hb3) (asV_some h1) h2 h3 h4 e I hQ)
  · -- call
    rename_i hna
    revert e; refine zB fun _ e => ?_
    revert e; refine zPVSt fun _ _ _ e => ?_
    rename_i h1
    revert e; refine zB fun _ e => ?_
    rename_i h3
    revert e; refine zPLVSt fun _ _ _ e => ?_
    rename_i h4
    exact kk (e_call K.par H.e H.c H.ns Fm (fun o a q h => by subst h; exact hna _ _ _ rfl) (asV_some h1) h3 h4 e I hQ)
  · -- call with a key
    revert e; refine zBf fun _ e => ?_
    rename_i hk
    replace hk := and2 hk
    have hlen := Nat.eq_of_beq_eq_true hk.2
    rw [List.length_eq_one_iff] at hlen
    obtain ⟨x₁, rfl⟩ := hlen
    revert e; refine zPVSt fun _ _ _ e => ?_
    rename_i h1
    revert e; refine zBf fun _ e => ?_
    rename_i h2
    revert e; refine zPLVSt fun _ _ _ e => ?_
    rename_i h3
    revert e; refine zPVSt fun _ _ _ e => ?_
    rename_i h4
    exact kk (K.key d ih H.e H.c H.ns _ _ _ _ _ _ _ _ _ _ _ _ _ _ _ _ (fun o a q h => by (first | exact Mine.ns h | exact Mine.ft h | exact Mine.sn h | exact Mine.tf h | cases h)) hk.1 (asV_some h1) (by simpa using h2) h3 (asV_some h4) e A fenv env h₀ L Fm fr own ρ pu s Q I hQ)
  · -- attribute
    revert e; refine zB fun _ e => ?_
    rename_i hb
    revert e; refine zPVSt fun _ _ _ e => ?_
    rename_i h1
    revert e; refine zOV fun _ _ e => ?_
    rename_i h2
    revert hQ; apply oV e; intro hQ
    exact kk (e_attr K.att H.e Fm hb (asV_some h1) h2 I hQ)
  · -- slice
    revert e; refine zPVSt fun _ _ _ e => ?_
    rename_i h1
    revert e; refine zPOVSt fun _ _ _ e => ?_
    rename_i h2
    revert e; refine zPOVSt fun _ _ _ e => ?_
    rename_i h3
    revert e; refine zOV fun _ _ e => ?_
    rename_i h4
    revert hQ; apply oV e; intro hQ
    exact kk (e_slice H.e Fm (asV_some h1) h2 h3 h4 I hQ)
  · -- subscript
    rename_i hns
    revert e; refine zPVSt fun _ _ _ e => ?_
    rename_i h1
    revert e; refine zPVSt fun _ _ _ e => ?_
    rename_i h2
    revert e; refine zOV fun _ _ e => ?_
    rename_i h3
    revert hQ; apply oV e; intro hQ
    exact kk (e_sub K.sub H.e Fm (fun a b c q h => hns _ _ _ _ h) (asV_some h1) (asV_some h2) h3 I hQ)
  · -- comprehension
    unfold outV at e
    revert e; refine zPVSt fun _ _ _ e => ?_
    rename_i h1
    revert hQ; apply oV e; intro hQ
    obtain ⟨iv, st₁, vs, h', st₂, a, b, c, f, rfl⟩ := compV_some h1
    exact kk (e_comp K.par H.e H.nt H.g Fm a b c f I hQ)
  · -- lambda
    (first | (revert e; refine mb (fun _ e => ?_) (fun _ e => ?_)) | split at e)
    · rename_i hl hf
      revert hQ; apply oV e; intro hQ
      refine kk (K.lam _ _ _ _ _ hl A fenv env h₀ L d Fm fr own st ρ pu s Q I ?_)
      rw [hf]; exact hQ
    · rename_i hl hf
      revert hQ; apply oV e; intro hQ
      refine kk (K.lam _ _ _ _ _ hl A fenv env h₀ L d Fm fr own st ρ pu s Q I ?_)
      rw [hf]; exact hQ
    · (first | exact Mine.ns e | exact Mine.ft e | exact Mine.sn e | exact Mine.tf e | cases e)
  · (first | exact Mine.ns e | exact Mine.ft e | exact Mine.sn e | exact Mine.tf e | cases e)
end Mine

end
section -- S18
namespace Mine
open PySem PySem.W PySem.Calls PyProof.Rows

theorem w_all {G : Glb} {p : Par} {d : Nat} {ih : Ev} (H : Snd G d ih) : SWh G d (stepA p ih) := by
  intro sc t b st fl st' e A fenv h₀ L Fm fr own ρ pu s R FF I hQ
  have e1 : (match asB (ih sc (.t t) st) with
    | some (true, st) => (match asF (ih sc (.s b) st) with
      | some (.nx, st) => ih sc (.w t b) st
      | some (.ret v, st) => some (.f (.ret v), st)
      | Option.none => Option.none)
    | some (false, st) => some (.f .nx, st)
    | Option.none => Option.none) = some (.f fl, st') := e
  (first | (revert e1; refine mb (fun _ e1 => ?_) (fun _ e1 => ?_)) | split at e1)
  · rename_i h1
    exact w_turn (c := true) H.t H.s H.w Fm FF (asB_some h1) e1 I hQ
  · rename_i h1
    exact w_turn (c := false) H.t H.s H.w Fm FF (asB_some h1) e1 I hQ
  · (first | exact Mine.ns e1 | exact Mine.ft e1 | exact Mine.sn e1 | exact Mine.tf e1 | cases e1)
theorem f_all {G : Glb} {p : Par} {d : Nat} {ih : Ev} (H : Snd G d ih) : SFo G d (stepA p ih) := by
  intro sc x px vs b st fl st' e A fenv h₀ L Fm fr own ρ pu s R I o xs i S FF hd hi T hS J hQ
  refine f_turn H.s H.f Fm FF (vs := vs) ?_ hd hi T hS J hQ
  cases vs with
  | nil => exact e
  | cons v vs => exact e
theorem g_all {G : Glb} {p : Par} {d : Nat} {ih : Ev} (H : Snd G d ih) : SCm G d (stepA p ih) := by
  intro csc elt t ts vs acc st v st' e
  refine g_turn H.e H.t H.g (vs := vs) ?_
  cases vs with
  | nil => exact e
  | cons v vs => exact e
inductive TSpec (env : Env) : Expr → TK → Prop
  | nt (x : Expr) (a) : TSpec env (.UnaryOp .Not x a) (.nt x)
  | bool (op : BoolOp) (vs : List Expr) (a) : TSpec env (.BoolOp op vs a) (.bool op vs)
  | cmp (l : Expr) (ops : List CmpOp) (cs : List Expr) (a) : TSpec env (.Compare l ops cs a) (.cmp l ops cs)
  | no (x : Expr) : TSpec env x .no
  | val (x : Expr) (h : isTrue x env (eval x env) = (do let v ← eval x env; standAt x.pos; holding [v] (truthy v))) : TSpec env x .val
set_option tactic.hygienic true in
theorem tSpec (env : Env) : ∀ x : Expr, TSpec env x (kindT x) := by
  intro x
  (first | exact Mine.ns x | exact Mine.ft x | exact Mine.sn x | exact Mine.tf x | cases x)
  case UnaryOp op x a => (first | exact Mine.ns op | exact Mine.ft op | exact Mine.sn op | exact Mine.tf op | cases op) <;> first | exact .nt .. | exact .val _ rfl
  case BoolOp => exact .bool ..
  case Compare => exact .cmp ..
  case IfExp => exact .no _
  all_goals exact .val _ rfl
theorem oB {a b : Bool} {s t : St} {C : Bool → St → Prop} (h : some (Out.b a, s) = some (Out.b b, t)) (k : C a s) : C b t := by (first | exact Mine.ns h | exact Mine.ft h | exact Mine.sn h | exact Mine.tf h | cases h); exact k
theorem t_all {G : Glb} {p : Par} (K : Prims G p) {d : Nat} {ih : Ev} (H : Snd G d ih) : STt G d (stepA p ih) := by
  intro sc x st b st' e A fenv env h₀ L Fm Z fr own ρ pu s Q I hQ
  replace e : evT p ih sc st x = some (.b b, st') := e
  unfold evT at e
  refine opq fun GG kk => ?_
  have hk := tSpec env x
  generalize kindT x = k at hk e
  cases hk with
  | nt x a =>
    revert e; refine zPBSt fun c st₁ h1 e => ?_
    revert hQ; apply oB e; intro hQ
    refine kk (wpAny_isTrue_Not (H.t _ _ _ _ _ (asB_some h1) A fenv env h₀ L Fm fr own ρ pu s _ I ?_))
    exact fun ρ' pu' s' p1 q1 I' sm => hQ ρ' pu' s' p1 q1 I' sm
  | bool op vs a =>
    unfold outB at e
    revert e; refine zPBSt fun c st₁ h1 e => ?_
    revert hQ; apply oB e; intro hQ
    exact kk (wpAny_isTrue_BoolOp (boolT_ok H.t Fm h1 I hQ))
  | cmp l ops cs a =>
    revert e; refine zBnf fun hm e => ?_
    revert e; refine zPVSt fun c st₁ h1 e => ?_
    unfold outB at e
    revert e; refine zPBSt fun c st₁ h2 e => ?_
    revert hQ; apply oB e; intro hQ
    exact kk (t_compare K.cmp H.e Fm hm (asV_some h1) h2 I hQ)
  | no x => exact ns e
  | val x h =>
    revert e; refine zPVSt fun c st₁ h1 e => ?_
    cases h2 : tv st₁.h c with
    | none => rw [h2] at e; exact ns e
    | some w =>
      rw [h2] at e
      revert hQ; apply oB e; intro hQ
      obtain rfl := tv_inv h2
      exact kk (t_value H.e Fm h (asV_some h1) I hQ)
end Mine

end
section -- S19
namespace Mine
open PySem PySem.W PySem.Calls PyProof.Rows

theorem c_all {G : Glb} {p : Par} (K : Prims G p) {d : Nat} {ih : Ev} (H : Snd G d ih) {f : V} {args : List V} {kw : Option V} {st st' : St} {v : V} (hk : okKw f kw = true) (e : callV p d ih f args kw st = some (v, st')) :
    st'.l = st.l ∧ ∀ x, CallsTo G (d + 1) x args kw st v st'.h (fun ρ pu => VR G.R ρ pu f x) :=
  c_call K.par K.code K.bi K.sg K.cl H.e H.s e fun hf => by
    (first | exact Mine.ns f | exact Mine.ft f | exact Mine.sn f | exact Mine.tf f | cases f) <;> (first | exact Mine.ns kw | exact Mine.ft kw | exact Mine.sn kw | exact Mine.tf kw | cases kw) <;> first | rfl | ((first | exact Mine.ns hk | exact Mine.ft hk | exact Mine.sn hk | exact Mine.tf hk | cases hk); done) | (exfalso; exact hf _ rfl)
theorem s_one {G : Glb} {p : Par} (K : Prims G p) {d : Nat} {ih : Ev} (H : Snd G d ih) {sc : Scope} {x : Stmt} {st st' : St} {fl : Fl} (e : evS p ih sc st x = some (fl, st')) {A : Around} {fenv : Env} {h₀ : Heap} {L : Addr} (Fm : Frm G A sc fenv fenv h₀ L d) {fr own : Led} {ρ : List Addr} {pu : Led} {s : Shared} {Q : Flow → Shared → Prop}
    (FF : FnF fenv L sc own) (I : Inv G.R Z0 fenv h₀ L fr own st ρ pu s.heap) (hQ : FP G.R fenv h₀ L fr own st' ρ pu s fl Q) : wpAny (model G.prog G.w) A (exec x fenv) Q noE s := by
  refine opq fun GG kk => ?_
  unfold evS at e
  have hk := sSpec x
  generalize kindS x = k at hk e
  (first | exact Mine.ns hk | exact Mine.ft hk | exact Mine.sn hk | exact Mine.tf hk | cases hk) <;> dsimp only at e
  · revert e; refine zPVSt fun _ _ _ e => ?_
    rename_i h1; revert hQ; apply oF e; intro hQ; exact kk (s_expr H.e Fm (asV_some h1) I hQ)
  · revert hQ; apply oF e; intro hQ; exact kk (s_return0 I hQ)
  · revert e; refine zPVSt fun _ _ _ e => ?_
    rename_i h1; revert hQ; apply oF e; intro hQ; exact kk (s_return H.e Fm (asV_some h1) I hQ)
  · (first | (revert e; refine mb (fun _ e => ?_) (fun _ e => ?_)) | split at e)
    · rename_i h1
      (first | (revert e; refine mb (fun _ e => ?_) (fun _ e => ?_)) | split at e)
      · rename_i h2
        revert e; refine zOLSV fun _ _ e => ?_
        rename_i h3
        revert hQ; apply oF e; intro hQ
        exact kk (s_assign_tuple H.e Fm FF (asV_some h1) h2 h3 I hQ)
      · rename_i h2
        revert e; refine zOLSV fun _ _ e => ?_
        rename_i h3
        revert hQ; apply oF e; intro hQ
        exact kk (s_assign_tuple H.e Fm FF (asV_some h1) h2 h3 I hQ)
      · (first | exact Mine.ns e | exact Mine.ft e | exact Mine.sn e | exact Mine.tf e | cases e)
    · (first | exact Mine.ns e | exact Mine.ft e | exact Mine.sn e | exact Mine.tf e | cases e)
  · (first | (revert e; refine mb (fun _ e => ?_) (fun _ e => ?_)) | split at e)
    · rename_i h1
      revert e; refine zOLSV fun _ _ e => ?_
      rename_i h2
      revert hQ; apply oF e; intro hQ
      exact kk (s_unp H.e Fm FF (asV_some h1) h2 I hQ)
    · (first | exact Mine.ns e | exact Mine.ft e | exact Mine.sn e | exact Mine.tf e | cases e)
  · (first | (revert e; refine mb (fun _ e => ?_) (fun _ e => ?_)) | split at e)
    · rename_i hy hn hl
      revert e; refine zPVSt fun _ _ _ e => ?_
      rename_i h1
      revert hQ; apply oF e; intro hQ
      obtain ⟨iv, st₁, vs, h', st₂, a, b, c, f, rfl⟩ := compV_some h1
      rw [slook_eq] at hy
      exact kk (s_assign_comp K.par H.e H.nt H.g Fm FF hy hn (Nat.eq_of_beq_eq_true hl) a b c f I hQ)
    · (first | exact Mine.ns e | exact Mine.ft e | exact Mine.sn e | exact Mine.tf e | cases e)
  · revert e; refine zBn fun _ e => ?_
    rename_i hc
    revert e; refine zPVSt fun _ _ _ e => ?_
    rename_i h1
    revert e; refine zOSt fun _ _ e => ?_
    rename_i h2
    revert hQ; apply oF e; intro hQ
    unfold assignV at h2
    cases q1 : isNamE _ with
    | some x =>
      rw [q1] at h2
      obtain ⟨p, rfl⟩ := isNamE_iff q1
      revert h2; refine zB fun hm h2 => ?_
      obtain rfl := Option.some.inj h2
      exact kk (s_assign_name H.e Fm FF hc hm (asV_some h1) I hQ)
    | none =>
      rw [q1] at h2
      clear q1
      cases q2 : isAtt _ with
      | none => rw [q2] at h2; exact ns h2
      | some q =>
        rw [q2] at h2
        obtain ⟨o, a, ap⟩ := q
        obtain rfl := isAtt_iff q2
        clear q2
        revert h2; refine zPVSt fun ov st₃ h3 h2 => ?_
        revert h2; refine zONat fun n h4 h2 => ?_
        obtain rfl := locOf_iff h4
        unfold putAttr at h2
        (first | (revert h2; refine mb (fun _ h2 => ?_) (fun _ h2 => ?_)) | split at h2)
        · rename_i h4
          revert h2; refine zB fun _ h2 => ?_
          rename_i h5
          obtain rfl := Option.some.inj h2
          exact kk (s_assign_attr K.set H.e Fm hc h5 (asV_some h1) (asV_some h3) h4 I hQ)
        · exact ns h2
  · (first | (revert e; refine mb (fun _ e => ?_) (fun _ e => ?_)) | split at e)
    · rename_i h1
      exact kk (s_if (c := true) H.t H.s Fm FF (asB_some h1) (asF_some e) I hQ)
    · rename_i h1
      exact kk (s_if (c := false) H.t H.s Fm FF (asB_some h1) (asF_some e) I hQ)
    · (first | exact Mine.ns e | exact Mine.ft e | exact Mine.sn e | exact Mine.tf e | cases e)
  · exact kk (s_while H.w Fm FF (asF_some e) I hQ)
  · revert e; refine zPVSt fun _ _ _ e => ?_
    rename_i h1
    revert e; refine zPLVM fun _ _ _ e => ?_
    rename_i h2
    exact kk (s_for K.par H.e H.nt H.f Fm FF (asV_some h1) h2 (asF_some e) I hQ)
  · (first | (revert e; refine mb (fun _ e => ?_) (fun _ e => ?_)) | split at e)
    · rename_i h1
      (first | exact Mine.ns e | exact Mine.ft e | exact Mine.sn e | exact Mine.tf e | cases e)
      exact kk (s_try H.s Fm FF (asF_some h1) I hQ)
    · (first | exact Mine.ns e | exact Mine.ft e | exact Mine.sn e | exact Mine.tf e | cases e)
  · (first | exact Mine.ns e | exact Mine.ft e | exact Mine.sn e | exact Mine.tf e | cases e)
theorem s_all {G : Glb} {p : Par} (K : Prims G p) {d : Nat} {ih : Ev} (H : Snd G d ih) : SSt G d (stepA p ih) := by
  intro sc ss st fl st' e A fenv h₀ L Fm fr own ρ pu s Q FF I hQ
  cases ss with
  | nil =>
    (first | exact Mine.ns e | exact Mine.ft e | exact Mine.sn e | exact Mine.tf e | cases e)
    exact wpAny_execs_nil (hQ ρ pu own s (Pre.refl _) (Sub.refl _) (OwnR.refl _) I (Same.refl s))
  | cons x r =>
    have e1 : (match evS p ih sc st x with
      | some (.nx, st) => ih sc (.s r) st
      | some (.ret v, st) => some (.f (.ret v), st)
      | Option.none => Option.none) = some (.f fl, st') := e
    (first | (revert e1; refine mb (fun _ e1 => ?_) (fun _ e1 => ?_)) | split at e1)
    · rename_i h1
      exact s_cons H.s Fm FF (fun Q' hQ' => s_one K H h1 Fm FF I hQ') e1 hQ
    · rename_i h1
      (first | exact Mine.ns e1 | exact Mine.ft e1 | exact Mine.sn e1 | exact Mine.tf e1 | cases e1)
      exact s_cons_ret (fun Q' hQ' => s_one K H h1 Fm FF I hQ') hQ
    · (first | exact Mine.ns e1 | exact Mine.ft e1 | exact Mine.sn e1 | exact Mine.tf e1 | cases e1)
end Mine

end
section -- S20
namespace Mine
open PySem PySem.W PySem.Calls PyProof.Rows

theorem ns_all {p : Par} {ih : Ev} : NoStar (stepA p ih) := fun _ _ _ _ => rfl
theorem none_snd {G : Glb} {d : Nat} : Snd G d (fun _ _ _ => Option.none) where
  e := fun _ _ _ _ _ h => nomatch h
  t := fun _ _ _ _ _ h => nomatch h
  s := fun _ _ _ _ _ h => nomatch h
  w := fun _ _ _ _ _ _ h => nomatch h
  f := fun _ _ _ _ _ _ _ _ h => nomatch h
  g := fun _ _ _ _ _ _ _ _ _ h => nomatch h
  c := fun _ _ _ _ _ _ _ h => nomatch h
  ns := fun _ _ _ _ => rfl
  nt := fun _ _ _ _ _ => rfl
theorem outV_some {o : Option (V × St)} {v : V} {st : St} (h : outV o = some (.v v, st)) : o = some (v, st) := by
  unfold outV at h
  revert h; refine zPVSt fun _ _ q h => ?_
  (first | exact Mine.ns h | exact Mine.ft h | exact Mine.sn h | exact Mine.tf h | cases h); exact q
theorem snd_step {G : Glb} {p : Par} (K : Prims G p) {ih : Nat → Ev} (H : ∀ d, Snd G d (ih d)) (d : Nat) : Snd G d (step p ih d) where
  e := e_all K (H d)
  t := t_all K (H d)
  s := s_all K (H d)
  w := w_all (p := p) (H d)
  f := f_all (p := p) (H d)
  g := g_all (p := p) (H d)
  c := by
    intro sc f args kw st v st' e A sc' fenv env h₀ L Fm Z fr own ρ pu s x vals kws Q I hx hv hk hQ
    cases d with
    | zero => exact nomatch e
    | succ d =>
      have e : (match okKw f kw with
        | true => outV (callV p d (ih d) f args kw st)
        | false => Option.none) = some (.v v, st') := e
      revert e; refine zB fun _ e => ?_
      rename_i hok
      obtain ⟨hl, hc⟩ := c_all K (H d) hok (outV_some e)
      refine hc x A sc' fenv env h₀ L Fm Z fr own ρ pu s vals kws Q I hx hv hk ?_
      have : (⟨st.l, st'.h⟩ : St) = st' := by rw [← hl]
      rw [this]
      exact hQ
  ns := fun _ _ _ _ => rfl
  nt := fun _ _ _ _ _ => rfl
theorem snd_ev {G : Glb} {p : Par} (K : Prims G p) : ∀ n d, Snd G d (ev p n d)
  | 0, _ => none_snd
  | n + 1, d => snd_step K (snd_ev K n) d
end Mine

end
section -- P1
namespace Mine
open PySem PySem.W PySem.Calls PyProof.Rows

mutual
/-- the datum of a closed value -/
noncomputable def pdc : V → PyData
  | .int i => .int i
  | .str x => .str x
  | .tup l => .tuple (pdcs l)
  | .lst l => .list (pdcs l)
  | _ => .none
noncomputable def pdcs : List V → List PyData
  | [] => []
  | d :: r => pdc d :: pdcs r
end
mutual
noncomputable def isC : V → Bool
  | .none => true
  | .int _ => true
  | .str x => strOkL x.cps.toList
  | .tup l => isCs l
  | .lst l => isCs l
  | _ => false
noncomputable def isCs : List V → Bool
  | [] => true
  | d :: r => isC d && isCs r
end
mutual
noncomputable def pdt (τ : Nat → V) : V → PyData
  | .int i => .int i
  | .str x => .str x
  | .tup l => .tuple (pdts τ l)
  | .lst l => .list (pdts τ l)
  | .nm k => pdc (τ k)
  | _ => .none
noncomputable def pdts (τ : Nat → V) : List V → List PyData
  | [] => []
  | d :: r => pdt τ d :: pdts τ r
end
theorem strOkL_iff : ∀ l : List Nat, strOkL l = l.all (· < 0x110000)
  | [] => rfl
  | c :: r => by
    unfold strOkL
    rw [List.all_cons, ← strOkL_iff r]
    cases h : Nat.blt c 1114112 with
    | true => have := Nat.blt_eq.mp h; simp [this]
    | false =>
      have : ¬ c < 1114112 := fun q => by rw [Nat.blt_eq.mpr q] at h; (first | exact Mine.ns h | exact Mine.ft h | exact Mine.sn h | exact Mine.tf h | cases h)
      simp [this]
theorem strOk_of {x : Str} (h : strOkL x.cps.toList = true) : PyData.strOk x = true := by
  rw [strOkL_iff] at h
  unfold PyData.strOk
  rw [← Array.all_toList]
  exact h
/-- data are kept at the numbers from 100 on -/
structure TauOk (R : Rc) : Prop where
  c : ∀ k, 100 ≤ k → isC (R.τ k) = true
  d : ∀ k, 100 ≤ k → (pdc (R.τ k)).depth ≤ 12
  f : ∀ k, 50 ≤ k → k < 100 → ∀ ρ pu x, VR R ρ pu (R.τ k) x → plainIs x .none = true ∧ x ≠ .none
section
variable {R : Rc} {ρ : List Addr} {pu : Led} {h : Heap}
theorem reads_c' (hp : ∀ q ∈ pu, h.get? q.1 = some q.2) (hk : R.K.In h) : (∀ (d : V) (v : Value), VR R ρ pu d v → isC d = true → (∃ as, Reads h v (pdc d) as) ∧ (pdc d).canLay0 = true) ∧ (∀ (ds : List V) (vs : List Value), VRs R ρ pu ds vs → isCs ds = true → (∃ as, ReadsAll h vs (pdcs ds) as) ∧ PyData.canLayAll0 (pdcs ds) = true) := by
  refine V_ind ?_ (fun _ _ _ e => ft e) ?_ ?_ ?_ ?_ (fun _ _ _ _ _ _ e => ft e) (fun _ _ _ e => ft e) (fun _ _ _ _ e => ft e) (fun _ _ _ e => ft e) (fun _ _ _ e => ft e) (fun _ _ _ e => ft e) (fun _ _ _ _ e => ft e) (fun _ _ _ _ _ e => ft e) (fun _ _ e => ft e) ?_ ?_
  · intro v hv _; obtain rfl := hv.none_inv; exact ⟨⟨_, .none⟩, rfl⟩
  · intro i v hv _; obtain ⟨t, rfl⟩ := hv.int_inv; exact ⟨⟨_, .int i _⟩, rfl⟩
  · intro x v hv e; obtain ⟨t, rfl⟩ := hv.str_inv; exact ⟨⟨_, .str x _⟩, strOk_of e⟩
  · intro l ih v hv e
    obtain ⟨a, vs, n, rfl, hm, r⟩ := hv.tupI
    obtain ⟨⟨as, q⟩, c⟩ := ih _ r e
    exact ⟨⟨as, .tuple (hm.elim (fun hm => hp _ hm) fun hm => hk _ _ hm) rfl rfl (by simpa using q)⟩, c⟩
  · intro l ih v hv e
    obtain ⟨_, _, _, rfl, hm, r⟩ := hv.lst_inv
    obtain ⟨⟨as, q⟩, c⟩ := ih _ r e
    exact ⟨⟨_, .list (hp _ hm) rfl rfl (by simpa [W.listOf] using q)⟩, c⟩
  · intro v hv _; obtain rfl := hv.nil_inv; exact ⟨⟨_, .nil⟩, rfl⟩
  · intro d ds ih1 ih2 v hv e
    obtain ⟨_, _, rfl, hd, r⟩ := hv.cons_inv
    obtain ⟨⟨as, q⟩, c⟩ := ih1 _ hd (and2 e).1
    obtain ⟨⟨bs, q'⟩, c'⟩ := ih2 _ r (and2 e).2
    exact ⟨⟨_, .cons q q'⟩, (Bool.and_eq_true _ _).mpr ⟨c, c'⟩⟩
theorem reads_c (hp : ∀ q ∈ pu, h.get? q.1 = some q.2) (hk : R.K.In h) (d : V) {v : Value} (hv : VR R ρ pu d v) (e : isC d = true) : (∃ as, Reads h v (pdc d) as) ∧ (pdc d).canLay0 = true := (reads_c' hp hk).1 d v hv e
theorem reads_d' (T : TauOk R) (hp : ∀ q ∈ pu, h.get? q.1 = some q.2) (hk : R.K.In h) : (∀ (d : V) (n : Nat) (v : Value), VR R ρ pu d v → isD n d = true → (∃ as, Reads h v (pdt R.τ d) as) ∧ (pdt R.τ d).canLay0 = true ∧ (pdt R.τ d).depth ≤ n + 12) ∧
    (∀ (ds : List V) (n : Nat) (vs : List Value), VRs R ρ pu ds vs → isDs n ds = true → (∃ as, ReadsAll h vs (pdts R.τ ds) as) ∧ PyData.canLayAll0 (pdts R.τ ds) = true ∧ PyData.depthAll (pdts R.τ ds) ≤ n + 12) := by
  refine V_ind ?_ (fun _ _ _ _ e => ft e) ?_ ?_ ?_ ?_ (fun _ _ _ _ _ _ _ e => ft e) ?_ (fun _ _ _ _ _ e => ft e) (fun _ _ _ _ e => ft e) (fun _ _ _ _ e => ft e) (fun _ _ _ _ e => ft e) (fun _ _ _ _ _ e => ft e) (fun _ _ _ _ _ _ e => ft e) (fun _ _ _ e => ft e) ?_ ?_
  · intro n v hv _; obtain rfl := hv.none_inv; exact ⟨⟨_, .none⟩, rfl, Nat.zero_le _⟩
  · intro i n v hv _; obtain ⟨t, rfl⟩ := hv.int_inv; exact ⟨⟨_, .int i _⟩, rfl, Nat.zero_le _⟩
  · intro x n v hv e; obtain ⟨t, rfl⟩ := hv.str_inv; exact ⟨⟨_, .str x _⟩, strOk_of e, Nat.zero_le _⟩
  · intro l ih n v hv e
    obtain ⟨a, vs, k, rfl, hm, r⟩ := hv.tupI
    cases n with
    | zero => exact ft e
    | succ n =>
      obtain ⟨⟨as, q⟩, c, b⟩ := ih n _ r e
      exact ⟨⟨as, .tuple (hm.elim (fun hm => hp _ hm) fun hm => hk _ _ hm) rfl rfl (by simpa using q)⟩, c, Nat.le_trans (Nat.succ_le_succ b) (Nat.le_of_eq (Nat.succ_add n 12).symm)⟩
  · intro l ih n v hv e
    obtain ⟨_, _, _, rfl, hm, r⟩ := hv.lst_inv
    cases n with
    | zero => exact ft e
    | succ n =>
      obtain ⟨⟨as, q⟩, c, b⟩ := ih n _ r e
      exact ⟨⟨_, .list (hp _ hm) rfl rfl (by simpa [W.listOf] using q)⟩, c, Nat.le_trans (Nat.succ_le_succ b) (Nat.le_of_eq (Nat.succ_add n 12).symm)⟩
  · intro k n v hv e
    cases n with
    | zero => exact ft e
    | succ n =>
      have hk100 : 100 ≤ k := Nat.le_of_ble_eq_true e
      obtain ⟨q, c⟩ := reads_c hp hk _ hv.nm_inv (T.c k hk100)
      exact ⟨q, c, Nat.le_trans (T.d k hk100) (Nat.le_add_left ..)⟩
  · intro n v hv _; obtain rfl := hv.nil_inv; exact ⟨⟨_, .nil⟩, rfl, Nat.zero_le _⟩
  · intro d ds ih1 ih2 n v hv e
    obtain ⟨_, _, rfl, hd, r⟩ := hv.cons_inv
    obtain ⟨⟨as, q⟩, c, b⟩ := ih1 n _ hd (and2 e).1
    obtain ⟨⟨bs, q'⟩, c', b'⟩ := ih2 n _ r (and2 e).2
    exact ⟨⟨_, .cons q q'⟩, (Bool.and_eq_true _ _).mpr ⟨c, c'⟩, Nat.max_le.mpr ⟨b, b'⟩⟩
theorem reads_d (T : TauOk R) (hp : ∀ q ∈ pu, h.get? q.1 = some q.2) (hk : R.K.In h) (n : Nat) (d : V) {v : Value} (hv : VR R ρ pu d v) (e : isD n d = true) : (∃ as, Reads h v (pdt R.τ d) as) ∧ (pdt R.τ d).canLay0 = true ∧ (pdt R.τ d).depth ≤ n + 12 := (reads_d' T hp hk).1 d n v hv e
end
theorem eqv_self' : (∀ d : V, PyData.eqv (pdc d) (pdc d) = true) ∧ (∀ l : List V, PyData.eqvAll (pdcs l) (pdcs l) = true) :=
  V_ind rfl (fun _ => rfl) (fun i => beq_self_eq_true i) (fun x => beq_self_eq_true x) (fun _ h => h) (fun _ h => h) (fun _ _ _ _ => rfl) (fun _ => rfl) (fun _ _ => rfl) (fun _ => rfl) (fun _ => rfl) (fun _ => rfl) (fun _ _ => rfl) (fun _ _ _ => rfl) rfl rfl fun _ _ a b => (Bool.and_eq_true _ _).mpr ⟨a, b⟩
theorem eqv_self (d : V) : PyData.eqv (pdc d) (pdc d) = true := eqv_self'.1 d
theorem nbeq_iff (m n : Nat) : Nat.beq m n = decide (m = n) := by
  cases h : Nat.beq m n with
  | true => have := Nat.eq_of_beq_eq_true h; simp [this]
  | false => have := Nat.ne_of_beq_eq_false h; simp [this]
theorem nblt_iff (m n : Nat) : Nat.blt m n = decide (m < n) := by
  cases h : Nat.blt m n with
  | true => have := Nat.blt_eq.mp h; simp [this]
  | false =>
    have : ¬ m < n := fun q => by rw [Nat.blt_eq.mpr q] at h; (first | exact Mine.ns h | exact Mine.ft h | exact Mine.sn h | exact Mine.tf h | cases h)
    symm; rw [decide_eq_false_iff_not]; exact this
set_option tactic.hygienic true in
theorem ieq_iff (a b : Int) : ieq a b = (a == b) := by
  (first | exact Mine.ns a | exact Mine.ft a | exact Mine.sn a | exact Mine.tf a | cases a) <;> (first | exact Mine.ns b | exact Mine.ft b | exact Mine.sn b | exact Mine.tf b | cases b)
  · rename_i m n
    show Nat.beq m n = _
    rw [nbeq_iff, Bool.eq_iff_iff]
    simp only [decide_eq_true_eq, beq_iff_eq, Int.ofNat.injEq]
  · rfl
  · rfl
  · rename_i m n
    show Nat.beq m n = _
    rw [nbeq_iff, Bool.eq_iff_iff]
    simp
set_option tactic.hygienic true in
theorem ilt_iff (a b : Int) : ilt a b = decide (a < b) := by
  (first | exact Mine.ns a | exact Mine.ft a | exact Mine.sn a | exact Mine.tf a | cases a) <;> (first | exact Mine.ns b | exact Mine.ft b | exact Mine.sn b | exact Mine.tf b | cases b)
  · rename_i m n
    show Nat.blt m n = _
    rw [nblt_iff, Bool.eq_iff_iff]
    simp
  · rename_i m n
    show false = _
    symm; rw [decide_eq_false_iff_not]; have : (0 : Int) ≤ Int.ofNat m := Int.natCast_nonneg m; lia
  · rename_i m n
    show true = _
    symm; rw [decide_eq_true_eq]; have : (0 : Int) ≤ Int.ofNat n := Int.natCast_nonneg n; lia
  · rename_i m n
    show Nat.blt n m = _
    rw [nblt_iff, Bool.eq_iff_iff]
    simp only [decide_eq_true_eq]
    lia
theorem seq_beq (a b : Str) : seq a b = (a == b) := by
  cases h : seq a b with
  | true => rw [(seq_iff _ _).mp h]; simp
  | false => symm; rw [beq_eq_false_iff_ne]; exact (seq_false _ _).mp h
theorem noneF_inv {b : V} {r : Bool} (h : noneF b = some r) : b = .none ∧ r = false := by
  unfold noneF at h
  revert h; refine zB fun h1 e => ?_
  exact ⟨isNoneV_iff h1, (Option.some.inj e).symm⟩
set_option tactic.hygienic true in
set_option tactic.hygienic true in
theorem veq_ok' (τ : Nat → V) : (∀ (a b : V) (r : Bool), veq a b = some r → PyData.eqv (pdt τ a) (pdt τ b) = r) ∧ (∀ (a b : List V) (r : Bool), veqs a b = some r → PyData.eqvAll (pdts τ a) (pdts τ b) = r) := by
  refine V_ind ?_ (fun _ _ _ e => ns e) ?_ ?_ ?_ ?_ (fun _ _ _ _ _ _ e => ns e) ?_ (fun _ _ _ _ e => ns e) (fun _ _ _ e => ns e) (fun _ _ _ e => ns e) (fun _ _ _ e => ns e) (fun _ _ _ _ e => ns e) (fun _ _ _ _ _ e => ns e) (fun _ _ e => ns e) ?_ ?_
  · intro b r e
    have e : noneD b = some r := e
    (first | exact Mine.ns b | exact Mine.ft b | exact Mine.sn b | exact Mine.tf b | cases b) <;> first | exact Option.some.inj e | exact ns e
  · intro i b r e
    have e : (match intOf b with | some j => some (ieq i j) | Option.none => noneF b) = some r := e
    cases h : intOf b with
    | some j => rw [h] at e; rw [intOf_iff h, ← Option.some.inj e, ieq_iff]; rfl
    | none => rw [h] at e; rw [(noneF_inv e).1, (noneF_inv e).2]; rfl
  · intro i b r e
    have e : (match strO b with | some j => some (seq i j) | Option.none => noneF b) = some r := e
    cases h : strO b with
    | some j => rw [h] at e; rw [strO_iff h, ← Option.some.inj e, seq_beq]; rfl
    | none => rw [h] at e; rw [(noneF_inv e).1, (noneF_inv e).2]; rfl
  · intro l ih b r e
    have e : (match tupOf b with | some j => veqs l j | Option.none => noneF b) = some r := e
    cases h : tupOf b with
    | some j => rw [h] at e; rw [tupOf_iff h]; exact ih j r e
    | none => rw [h] at e; rw [(noneF_inv e).1, (noneF_inv e).2]; rfl
  · intro l ih b r e
    have e : (match lstO b with | some j => veqs l j | Option.none => noneF b) = some r := e
    cases h : lstO b with
    | some j => rw [h] at e; rw [lstO_iff h]; exact ih j r e
    | none => rw [h] at e; rw [(noneF_inv e).1, (noneF_inv e).2]; rfl
  · intro k b r e
    have e : (match nmOf b with
      | some j => (match Nat.beq k j && Nat.ble 100 k with | true => some true | false => Option.none)
      | Option.none => Option.none) = some r := e
    revert e; refine zONat fun j h e => ?_
    revert e; refine zB fun h2 e => ?_
    rw [nmOf_iff h, ← Option.some.inj e, Nat.eq_of_beq_eq_true (and2 h2).1]
    exact eqv_self _
  · intro q r e
    cases q with
    | nil => exact Option.some.inj e
    | cons _ _ => exact Option.some.inj e
  · intro a l ih1 ih2 q r e
    cases q with
    | nil => exact Option.some.inj e
    | cons b q =>
      have e : (match veq a b with | some true => veqs l q | some false => some false | Option.none => Option.none) = some r := e
      show (PyData.eqv _ _ && PyData.eqvAll _ _) = r
      cases h : veq a b with
      | none => rw [h] at e; exact ns e
      | some c =>
        rw [h] at e
        rw [ih1 _ _ h]
        cases c with
        | true => exact ih2 _ _ e
        | false => exact Option.some.inj e
theorem veq_ok (τ : Nat → V) (a b : V) (r : Bool) (e : veq a b = some r) : PyData.eqv (pdt τ a) (pdt τ b) = r := (veq_ok' τ).1 a b r e
end Mine

end
section -- P2
namespace Mine
open PySem PySem.W PySem.Calls PyProof.Rows PySem.Builtin.Str

/-! ## a text in a text -/
theorem isPre_iff : ∀ (p l : List Nat), isPre p l = true ↔ l.take p.length = p
  | [], l => by simp [isPre]
  | a :: r, [] => by simp [isPre]
  | a :: r, b :: q => by
    have ih := isPre_iff r q
    unfold isPre
    rw [nbeq_iff]
    by_cases h : a = b
    · subst h; simp [ih]
    · simp [h, Ne.symm h]
theorem subIdx_eq (p : List Nat) : ∀ (n : Nat) (l : List Nat), subIdx p n l = ((List.range' 0 (l.length + 1)).find? fun i => isPre p (l.drop i)).map (n + ·)
  | n, [] => by
    unfold subIdx
    show _ = (List.find? _ [0]).map _
    rw [List.find?_cons]
    rw [show (List.drop 0 [] : List Nat) = [] from rfl]
    cases isPre p [] <;> simp
  | n, b :: q => by
    unfold subIdx
    have e : List.range' 0 ((b :: q).length + 1) = 0 :: (List.range' 0 (q.length + 1)).map (· + 1) := by
      have e2 : (List.range' 0 (q.length + 1)).map (· + 1) = List.range' 1 (q.length + 1) := by
        have := List.map_add_range' (a := 1) 0 (q.length + 1) 1
        rw [← this]
        congr 1
        funext i; lia
      rw [e2]
      rfl
    rw [e, List.find?_cons]
    rw [show (b :: q).drop 0 = b :: q from rfl]
    cases h : isPre p (b :: q) with
    | true => simp
    | false =>
      simp only []
      rw [subIdx_eq p (n + 1) q, List.find?_map]
      rw [Option.map_map]
      rw [show ((fun i => isPre p ((b :: q).drop i)) ∘ (· + 1)) = fun i => isPre p (q.drop i) from by funext i; rfl]
      congr 1
      funext i
      simp; lia
theorem hasSub_eq (p l : List Nat) : hasSub p l = (subIdx p 0 l).isSome := by
  have key : ∀ (l : List Nat) (n : Nat), hasSub p l = (subIdx p n l).isSome := by
    intro l
    induction l with
    | nil => intro n; unfold hasSub subIdx; cases isPre p [] <;> rfl
    | cons b q ih =>
      intro n
      unfold hasSub subIdx
      cases isPre p (b :: q) with
      | true => rfl
      | false => exact ih (n + 1)
  exact key l 0
theorem subAt_pre (x y : Str) (i : Nat) (h : i + y.length ≤ x.length) : subAt x y i = isPre y.cps.toList (x.cps.toList.drop i) := by
  unfold subAt
  rw [Bool.eq_iff_iff, isPre_iff, beq_iff_eq]
  constructor
  · intro e
    have := congrArg Array.toList e
    rw [Array.toList_extract] at this
    rw [← this]
    simp [List.extract, Str.length]
  · intro e
    apply Array.ext'
    rw [Array.toList_extract]
    rw [List.extract_eq_drop_take]
    rw [show i + y.length - i = y.cps.toList.length by simp [Str.length]]
    exact e
theorem isPre_long (x y : Str) (i : Nat) (h : ¬ i + y.length ≤ x.length) (hi : i ≤ x.length) : isPre y.cps.toList (x.cps.toList.drop i) = false := by
  rw [Bool.eq_false_iff]
  intro e
  rw [isPre_iff] at e
  have := congrArg List.length e
  rw [List.length_take, List.length_drop] at this
  simp only [Array.length_toList] at this
  unfold Str.length at h hi
  lia
theorem occ1 (x y : Str) : occurrences x y 0 x.length 1 = (subIdx y.cps.toList 0 x.cps.toList).toList := by
  rw [StrLaws.occ_eq, subIdx_eq]
  have key : ∀ l : List Nat, (∀ i ∈ l, i ≤ x.length) → (forIn (m := Id) l ((#[] : Array Nat), 0) (StrLaws.occBody x y x.length 1)).run.fst.toList = (l.find? fun i => isPre y.cps.toList (x.cps.toList.drop i)).toList := by
    intro l
    induction l with
    | nil => intro _; rfl
    | cons i r ih =>
      intro hl
      rw [List.forIn_cons]
      unfold StrLaws.occBody
      by_cases hc : (((#[] : Array Nat).size < 1 ∧ 0 ≤ i) ∧ i + y.length ≤ x.length) ∧ subAt x y i = true
      · rw [if_pos hc]
        have h1 := hc.1.2
        have h2 := hc.2
        rw [subAt_pre x y i h1] at h2
        rw [List.find?_cons, h2]
        have stop : ∀ (r : List Nat) (k : Nat), (forIn (m := Id) r ((#[i] : Array Nat), k) (StrLaws.occBody x y x.length 1)).run.fst = #[i] := by
          intro r
          induction r with
          | nil => intro k; rfl
          | cons j r ih2 =>
            intro k
            rw [List.forIn_cons]
            unfold StrLaws.occBody
            rw [if_neg (fun q => by have := q.1.1.1; simp at this)]
            exact ih2 k
        exact congrArg Array.toList (stop r _)
      · rw [if_neg hc]
        have h2 : isPre y.cps.toList (x.cps.toList.drop i) = false := by
          by_cases h1 : i + y.length ≤ x.length
          · rw [← subAt_pre x y i h1]
            rw [Bool.eq_false_iff]
            intro q; exact hc ⟨⟨⟨by simp, Nat.zero_le _⟩, h1⟩, q⟩
          · exact isPre_long x y i h1 (hl i (List.mem_cons_self ..))
        rw [List.find?_cons, h2]
        exact ih fun j hj => hl j (List.mem_cons_of_mem _ hj)
  have e := key (List.range' 0 (x.length + 1 - 0)) (by intro i hi; have := List.mem_range'_1.mp hi; lia)
  rw [e]
  simp [Str.length]
theorem in_occ (x y : Str) : (!(occurrences x y 0 x.length 1).isEmpty) = hasSub y.cps.toList x.cps.toList := by
  rw [occ1, hasSub_eq]
  cases subIdx y.cps.toList 0 x.cps.toList <;> rfl
theorem sleB_eq : ∀ a b : List Nat, sleB a b = !(decide (b < a))
  | [], b => by simp [sleB]
  | _ :: _, [] => by simp [sleB]
  | a :: r, b :: q => by
    unfold sleB
    rw [nblt_iff, nbeq_iff, sleB_eq r q]
    by_cases h1 : a < b
    · have : ¬ (b :: q < a :: r) := by rw [List.cons_lt_cons_iff]; lia
      simp [h1, this]
    · by_cases h2 : a = b
      · subst h2
        simp [List.cons_lt_cons_iff]
      · have : b :: q < a :: r := by rw [List.cons_lt_cons_iff]; left; lia
        simp [h1, h2, this]
end Mine

end
section -- P3
namespace Mine
open PySem PySem.W PySem.Calls PyProof.Rows

/-- what the ambient facts must say -/
structure FxOk (G : Glb) (p : Par) : Prop where
  lt : ∀ a b r, (p.fx 2 [a, b]).bind bOf = some r → ∀ ρ pu x y, VR G.R ρ pu a x → VR G.R ρ pu b y → ∃ i t j u, x = .int i t ∧ y = .int j u ∧ decide (i < j) = r
  eq : ∀ a b r, (p.fx 7 [a, b]).bind bOf = some r → ∀ ρ pu x y, VR G.R ρ pu a x → VR G.R ρ pu b y → (∃ u t w t', x = .str u t ∧ y = .str w t' ∧ (u == w) = r) ∨ (∃ i t j t', x = .int i t ∧ y = .int j t' ∧ ieq i j = r)
  gt : ∀ a b r, (p.fx 8 [a, b]).bind bOf = some r → ∀ ρ pu x y, VR G.R ρ pu a x → VR G.R ρ pu b y → ∃ i t j u, x = .int i t ∧ y = .int j u ∧ ilt j i = r
  sub : ∀ o i r, p.fx 3 [o, i] = some r → ∀ ρ pu x y, VR G.R ρ pu o x → VR G.R ρ pu i y → ∃ a vs n m t v, x = .ref a ∧ ((a, W.listOf (List.toArray vs) n) ∈ pu ∨ (a, tupO (List.toArray vs) n) ∈ pu) ∧ y = .int (Int.ofNat m) t ∧ m < 10000 ∧ vs[m]? = some v ∧ VR G.R ρ pu r v
  len : ∀ o r, p.fx 4 [o] = some r → ∀ ρ pu x, VR G.R ρ pu o x → ∃ a vs n, x = .ref a ∧ (a, W.listOf (List.toArray vs) n) ∈ pu ∧ vs.length < 10000 ∧ ∀ t, VR G.R ρ pu r (.int vs.length t)
/-- the tables of texts -/
noncomputable def InK (D : List (Str × KTD.Dat)) (ks : List Str) : Prop := ∀ x, KTD.inKeys x D = ks.any (seq x)
noncomputable def DkOk (G : Glb) (p : Par) : Prop := ∀ d ks, p.dk d = some ks → ∃ D, (∀ h, G.R.K.In h → KTD.TextTab h d D) ∧ InK D ks

section
variable {Z : ZP} {G : Glb} {p : Par} {A : Around} {sc : Scope} {fenv env : Env} {h₀ : Heap} {L : Addr} {d : Nat} {fr own : Led} {st st' : St} {ρ ρ' : List Addr} {pu pu' : Led} {s : Shared} {ih : Ev}

set_option tactic.hygienic true in
/-- all that is known of the heap, as one ledger -/
theorem Inv.all {R : Rc} {l : List (Str × V)} {hh : List MO} {h : Heap} (I : Inv R Z env h₀ L fr own ⟨l, hh⟩ ρ pu h) :
    ∃ puA, Sub pu puA ∧ (∀ q ∈ puA, h.get? q.1 = some q.2) ∧ (∀ a x, VR R ρ pu a x → VR R ρ puA (deref hh a) x) := by
  obtain ⟨m, mm, tb, chs, W⟩ := I
  refine ⟨chs.flatten ++ pu, fun q hq => List.mem_append_right _ hq, fun q hq => ?_, fun a x hv => ?_⟩
  · exact (W.N q (List.mem_append_right _ (List.mem_append_right _ (List.mem_append_right _ hq)))).1
  · have sub : Sub pu (chs.flatten ++ pu) := fun q hq => List.mem_append_right _ hq
    unfold deref
    split
    · rename_i l' hl
      unfold lstD at hl
      (first | (revert hl; refine mb (fun _ hl => ?_) (fun _ hl => ?_)) | split at hl)
      · rename_i n hn
        obtain rfl := locOf_iff hn
        obtain ⟨ad, c, e1, e2, e3, _⟩ := W.ms.at (lstAt_iff hl)
        obtain ⟨_, rfl, hr⟩ := hv.loc_inv; clear hv
        rw [e1] at hr
        (first | exact Mine.ns hr | exact Mine.ft hr | exact Mine.sn hr | exact Mine.tf hr | cases hr)
        obtain ⟨_, _, rfl, hvs⟩ := e3.lst_inv; clear e3
        rename_i vs n'
        refine .lst (n := n') (List.mem_append_left _ ?_) (hvs.mono (Pre.refl _) sub)
        exact List.mem_flatten.mpr ⟨_, List.mem_of_getElem? e2, List.mem_singleton.mpr rfl⟩
      · obtain rfl := lstO_iff hl
        exact hv.mono (Pre.refl _) sub
    · exact hv.mono (Pre.refl _) sub
theorem Frm.room (Fm : Frm G A sc fenv env h₀ L d) {n : Nat} (h : n ≤ 24) : A.units + 1 + n < cLine := by
  have := Fm.units
  show _ < 9900
  lia
theorem eqV_ok (T : TauOk G.R) (X : FxOk G p) (Fm : Frm G A sc fenv env h₀ L d) {hh : List MO} {a b : V} {r : Bool} {x y : Value} {l : List (Str × V)} (e : eqV p hh a b = some r) (I : Inv G.R Z env h₀ L fr own ⟨l, hh⟩ ρ pu s.heap) (hx : VR G.R ρ pu a x) (hy : VR G.R ρ pu b y) {Q : Value → Shared → Prop} :
    (Q (.bool r) s → wpAny (model G.prog G.w) A (compareOp .Eq x y) Q noE s) ∧ (Q (.bool (!r)) s → wpAny (model G.prog G.w) A (compareOp .NotEq x y) Q noE s) := by
  obtain ⟨puA, sub, hp, hd⟩ := I.all
  have hx := hd _ _ hx
  have hy := hd _ _ hy
  have hk := I.inK Fm.kin
  unfold eqV at e
  revert e
  generalize deref hh a = a' at hx ⊢
  generalize deref hh b = b' at hy ⊢
  intro e
  (first | (revert e; refine mb (fun _ e => ?_) (fun _ e => ?_)) | split at e)
  · rename_i hdd
    replace hdd := and2 hdd
    obtain ⟨⟨as, ra⟩, ca, da⟩ := reads_d T hp hk 8 a' hx hdd.1
    obtain ⟨⟨bs, rb⟩, cb, db⟩ := reads_d T hp hk 8 b' hy hdd.2
    have hv := veq_ok G.R.τ _ _ _ e
    have room : A.units + min (pdt G.R.τ a').depth (pdt G.R.τ b').depth < cLine := by
      have := Fm.room (n := 20) (by decide)
      have h1 := Nat.min_le_left (pdt G.R.τ a').depth (pdt G.R.τ b').depth
      lia
    refine ⟨fun q => ?_, fun q => ?_⟩
    · exact SeqAt.eqOverData _ _ _ _ _ _ _ _ _ _ _ _ ra rb ca cb room (by rw [hv]; exact q)
    · exact SeqAt.neOverData _ _ _ _ _ _ _ _ _ _ _ _ ra rb ca cb room (by rw [hv]; exact q)
  · rcases X.eq _ _ _ e _ _ _ _ hx hy with ⟨u, t, w, t', rfl, rfl, hr⟩ | ⟨i, t, j, t', rfl, rfl, rfl⟩
    · exact ⟨fun q => PyProof.Rows.eq_str (by rw [hr]; exact q), fun q => PyProof.Rows.ne_str (by rw [show (u != w) = !(u == w) from rfl, hr]; exact q)⟩
    · rw [ieq_iff]
      exact ⟨fun q => PyProof.Rows.eq_int q, fun q => PyProof.Rows.ne_int q⟩
theorem anyEq_ok (τ : Nat → V) (a : V) : ∀ (l : List V) (r : Bool), anyEq a l = some r → ((pdts τ l).any fun y => PyData.eqv y (pdt τ a)) = r
  | [], r, e => by (first | exact Mine.ns e | exact Mine.ft e | exact Mine.sn e | exact Mine.tf e | cases e); rfl
  | b :: q, r, e => by
    have e : (match veq b a with | some true => some true | some false => anyEq a q | Option.none => Option.none) = some r := by
      unfold anyEq at e; exact e
    show (PyData.eqv _ _ || _) = r
    (first | (revert e; refine mb (fun _ e => ?_) (fun _ e => ?_)) | split at e)
    · rename_i h
      (first | exact Mine.ns e | exact Mine.ft e | exact Mine.sn e | exact Mine.tf e | cases e)
      rw [veq_ok τ b a _ h]; rfl
    · rename_i h
      rw [veq_ok τ b a _ h]
      exact anyEq_ok τ a q r e
    · (first | exact Mine.ns e | exact Mine.ft e | exact Mine.sn e | exact Mine.tf e | cases e)
set_option tactic.hygienic true in
theorem vin_ok (T : TauOk G.R) (X : FxOk G p) (D : DkOk G p) (Fm : Frm G A sc fenv env h₀ L d) {hh : List MO} {a b : V} {r : Bool} {x y : Value} {l : List (Str × V)} (e : vin p hh a b = some r) (I : Inv G.R Z env h₀ L fr own ⟨l, hh⟩ ρ pu s.heap) (hx : VR G.R ρ pu a x) (hy : VR G.R ρ pu b y) {Q : Value → Shared → Prop} :
    ((∀ tk, Q (.bool r) { s with toks := tk }) → wpAny (model G.prog G.w) A (compareOp .In x y) Q noE s) ∧ ((∀ tk, Q (.bool (!r)) { s with toks := tk }) → wpAny (model G.prog G.w) A (compareOp .NotIn x y) Q noE s) := by
  obtain ⟨puA, sub, hp, hd⟩ := I.all
  have hx := hx.mono (Pre.refl _) sub
  have hk := I.inK Fm.kin
  unfold vin at e
  have room : ∀ q : List V, isDs 8 q = true → PyData.depthAll (pdts G.R.τ q) ≤ 20 → isD 8 a = true → (pdt G.R.τ a).depth ≤ 20 → A.units + 1 + min (PyData.depthAll (pdts G.R.τ q)) (pdt G.R.τ a).depth < cLine := by
    intro q _ h1 _ h2
    have := Fm.room (n := 20) (by decide)
    have h1 := Nat.min_le_left (PyData.depthAll (pdts G.R.τ q)) (pdt G.R.τ a).depth
    lia
  (first | (revert e; refine mb (fun _ e => ?_) (fun _ e => ?_)) | split at e)
  · rename_i q hq
    have hy := hd _ _ hy
    rw [deref_lst hq] at hy
    obtain ⟨hdd, e⟩ := bif_on e
    replace hdd := and2 hdd
    obtain ⟨⟨as, ra⟩, ca, da⟩ := reads_d T hp hk 8 a hx hdd.1
    have hds : isD 9 (.lst q) = true := hdd.2
    obtain ⟨⟨bs, rb⟩, cb, db⟩ := reads_d T hp hk 9 _ hy hds
    have db : PyData.depthAll (pdts G.R.τ q) + 1 ≤ 9 + 12 := db
    have hv := anyEq_ok G.R.τ _ _ _ e
    have rm := room q hdd.2 (by lia) hdd.1 da
    exact ⟨fun q => SeqAt.in_list_reads rb ra cb ca rm (by rw [hv]; exact q s.toks), fun q => SeqAt.notIn_list_reads rb ra cb ca rm (by rw [hv]; exact q s.toks)⟩
  · have hy := hy.mono (Pre.refl _) sub
    (first | (revert e; refine mb (fun _ e => ?_) (fun _ e => ?_)) | split at e)
    · rename_i q hq
      obtain rfl := tupOf_iff hq
      obtain ⟨hdd, e⟩ := bif_on e
      replace hdd := and2 hdd
      obtain ⟨⟨as, ra⟩, ca, da⟩ := reads_d T hp hk 8 a hx hdd.1
      have hds : isD 9 (.tup q) = true := hdd.2
      obtain ⟨⟨bs, rb⟩, cb, db⟩ := reads_d T hp hk 9 _ hy hds
      have db : PyData.depthAll (pdts G.R.τ q) + 1 ≤ 9 + 12 := db
      have hv := anyEq_ok G.R.τ _ _ _ e
      have rm := room q hdd.2 (by lia) hdd.1 da
      exact ⟨fun q => SeqAt.in_tuple_reads rb ra cb ca rm (by rw [hv]; exact q s.toks), fun q => SeqAt.notIn_tuple_reads rb ra cb ca rm (by rw [hv]; exact q s.toks)⟩
    · obtain ⟨u, hu, e1⟩ := bind2 e
      clear e
      obtain rfl := strO_iff hu
      obtain ⟨_, rfl⟩ := hx.str_inv; clear hx
      (first | (revert e1; refine mb (fun _ e1 => ?_) (fun _ e1 => ?_)) | split at e1)
      · rename_i w hw
        obtain rfl := strO_iff hw
        obtain rfl := Option.some.inj e1
        obtain ⟨_, rfl⟩ := hy.str_inv; clear hy
        rw [← in_occ]
        exact ⟨fun q => in_str (q s.toks), fun q => notIn_str (q s.toks)⟩
      · obtain ⟨dd, h0, e2⟩ := bind2 e1
        clear e1
        obtain rfl := refO_iff h0
        obtain ⟨ks, hks, e3⟩ := bind2 e2
        obtain rfl := Option.some.inj e3
        obtain ⟨DD, h1, h2⟩ := D _ _ hks
        obtain rfl := hy.val_inv; clear hy
        rw [← (h2 _ : KTD.inKeys _ DD = _)]
        have H : KTD.Here s.heap s.heap dd DD := ⟨h1 _ hk, fun _ _ h => h⟩
        exact ⟨fun q => KTD.in_text H (q _), fun q => KTD.notin_text H (q _)⟩
theorem is_ok (T : TauOk G.R) {a b : V} {r : Bool} {x y : Value} (e : isOp a b = some r) (hx : VR G.R ρ pu a x) (hy : VR G.R ρ pu b y) : (r = true ∧ x = .none ∧ y = .none) ∨ (r = false ∧ y = .none ∧ plainIs x .none = true ∧ x ≠ .none) := by
  unfold isOp at e
  revert e; refine zB fun _ e => ?_
  rename_i hb
  have := isNoneV_iff hb
  subst this
  have hy := hy.none_inv
  unfold isV at e
  (first | (revert e; refine mb (fun _ e => ?_) (fun _ e => ?_)) | split at e)
  · rename_i ha
    have := isNoneV_iff ha
    subst this
    exact .inl ⟨(Option.some.inj e).symm, hx.none_inv, hy⟩
  · (first | (revert e; refine mb (fun _ e => ?_) (fun _ e => ?_)) | split at e)
    · rename_i ha
      refine .inr ⟨(Option.some.inj e).symm, hy, ?_⟩
      rw [Bool.or_eq_true] at ha
      rcases ha with ha | ha
      · obtain ⟨c, rfl⟩ := hx.ref_inv ha
        exact ⟨rfl, fun q => nomatch q⟩
      · obtain ⟨c, rfl⟩ := refVal_iff ha
        have := hx.val_inv
        subst this
        exact ⟨rfl, fun q => nomatch q⟩
    · revert e; refine zONat fun _ _ e => ?_
      rename_i k hk
      have := nmOf_iff hk
      subst this
      revert e; refine zB fun _ e => ?_
      rename_i hkk
      replace hkk := and2 hkk
      exact .inr ⟨(Option.some.inj e).symm, hy, T.f _ (Nat.le_of_ble_eq_true hkk.1) (Nat.blt_eq.mp hkk.2) _ _ _ hx.nm_inv⟩
set_option tactic.hygienic true in
theorem cmp_ok (T : TauOk G.R) (X : FxOk G p) (D : DkOk G p) : CmpOk G p := by
  intro h op a b r e A sc fenv env h₀ L d Fm Z fr own l ρ pu s x y Q I hx hy hQ
  have here : ∀ tk, Q (.bool r) { s with toks := tk } := fun tk => hQ.here (.bool r) I
  cases op with
  | Eq => exact (eqV_ok T X Fm e I hx hy).1 (here s.toks)
  | NotEq =>
    obtain ⟨r', h1, h2⟩ := Option.map_eq_some_iff.mp e
    exact (eqV_ok T X Fm h1 I hx hy).2 (by rw [h2]; exact here s.toks)
  | In => exact (vin_ok T X D Fm e I hx hy).1 here
  | NotIn =>
    obtain ⟨r', h1, h2⟩ := Option.map_eq_some_iff.mp e
    exact (vin_ok T X D Fm h1 I hx hy).2 (fun tk => by rw [h2]; exact here tk)
  | Lt =>
    have e : ltV p a b = some r := e
    unfold ltV at e
    (first | (revert e; refine mb (fun _ e => ?_) (fun _ e => ?_)) | split at e)
    · rename_i i j hi hj
      have := intOf_iff hi
      subst this
      have := intOf_iff hj
      subst this
      obtain ⟨t, rfl⟩ := hx.int_inv
      obtain ⟨u, rfl⟩ := hy.int_inv
      exact PyProof.Rows.lt_int (by rw [← ilt_iff, Option.some.inj e]; exact here s.toks)
    · obtain ⟨i, t, j, u, rfl, rfl, hr⟩ := X.lt _ _ _ e _ _ _ _ hx hy
      exact PyProof.Rows.lt_int (by rw [hr]; exact here s.toks)
  | Gt =>
    have e : gtV p a b = some r := e
    unfold gtV at e
    (first | (revert e; refine mb (fun _ e => ?_) (fun _ e => ?_)) | split at e)
    · rename_i i j hi hj
      have := intOf_iff hi
      subst this
      have := intOf_iff hj
      subst this
      obtain ⟨t, rfl⟩ := hx.int_inv
      obtain ⟨u, rfl⟩ := hy.int_inv
      exact PyProof.Rows.gt_int (by rw [← ilt_iff, Option.some.inj e]; exact here s.toks)
    · obtain ⟨i, t, j, u, rfl, rfl, hr⟩ := X.gt _ _ _ e _ _ _ _ hx hy
      exact PyProof.Rows.gt_int (by rw [← ilt_iff, hr]; exact here s.toks)
  | GtE =>
    have e : geV a b = some r := e
    unfold geV at e
    (first | (revert e; refine mb (fun _ e => ?_) (fun _ e => ?_)) | split at e)
    · rename_i i j hi hj
      have := intOf_iff hi
      subst this
      have := intOf_iff hj
      subst this
      obtain ⟨t, rfl⟩ := hx.int_inv
      obtain ⟨u, rfl⟩ := hy.int_inv
      refine P.ge_int ?_
      rw [show decide (i ≥ j) = !ilt i j from ?_, Option.some.inj e]
      · exact here s.toks
      · rw [ilt_iff, ← decide_not]
        congr 1
        simp
    · (first | exact Mine.ns e | exact Mine.ft e | exact Mine.sn e | exact Mine.tf e | cases e)
  | LtE =>
    have e : leV a b = some r := e
    unfold leV at e
    (first | (revert e; refine mb (fun _ e => ?_) (fun _ e => ?_)) | split at e)
    · rename_i i j hi hj
      have := strO_iff hi
      subst this
      have := strO_iff hj
      subst this
      obtain ⟨t, rfl⟩ := hx.str_inv
      obtain ⟨u, rfl⟩ := hy.str_inv
      refine P.le_str ?_
      rw [← sleB_eq, Option.some.inj e]; exact here s.toks
    · (first | exact Mine.ns e | exact Mine.ft e | exact Mine.sn e | exact Mine.tf e | cases e)
  | Is =>
    rcases is_ok T e hx hy with ⟨rfl, rfl, rfl⟩ | ⟨rfl, rfl, h1, h2⟩
    · exact wpAny_is_self rfl (here s.toks)
    · exact wpAny_is_other h1 h2 (here s.toks)
  | IsNot =>
    obtain ⟨r', e, hr⟩ := Option.map_eq_some_iff.mp (show (isOp a b).map (!·) = some r from e)
    rcases is_ok T e hx hy with ⟨rfl, rfl, rfl⟩ | ⟨rfl, rfl, h1, h2⟩
    · exact wpAny_isNot_self rfl (by rw [show false = r from hr]; exact here s.toks)
    · exact wpAny_isNot_other h1 h2 (by rw [show true = r from hr]; exact here s.toks)
end
end Mine

end
section -- P4
namespace Mine
open PySem PySem.W PySem.Calls PyProof.Rows

/-- a class whose instances hold their attributes in a plain dict -/
structure InstOk (K : Frag) (C : Addr) : Prop where
  g : plainGet K C "x" = true
  d : hasDictIn K C = true
  s : findIn K (.ref C) "__setattr__" = some (some (.builtin "object.__setattr__"))
  o : plainOver K C = true
structure SaOk (G : Glb) (p : Par) : Prop where
  sa : ∀ C a, p.sa C a = true → InstOk G.R.K C ∧ findIn G.R.K (.ref C) a = some none
  mt : ∀ C a f, p.mt C a = some f → InstOk G.R.K C ∧ findIn G.R.K (.ref C) a = some (some (.ref f)) ∧ isFn G.R.K (.ref f) = true ∧ handedIn (.ref f) = true

section
variable {Z : ZP} {G : Glb} {p : Par} {A : Around} {sc : Scope} {fenv env : Env} {h₀ : Heap} {L : Addr} {d : Nat} {fr own : Led} {st st' : St} {ρ ρ' : List Addr} {pu pu' : Led} {s : Shared} {ih : Ev}

theorem isStr_iff (x y : Str) (t : Tok) : (Value.str x t).isStr y = seq x y := by
  rw [seq_beq]; rfl
set_option tactic.hygienic true in
theorem VRd.find {R : Rc} {ns : List Str} {l : List V} {es : List DictEntry} (h : VRd R ρ pu ns l es) (a : Str) :
    (∀ d, flook a ns l = some d → ∃ v, getL a es = some (some v) ∧ VR R ρ pu d v) ∧ (flook a ns l = none → getL a es = some none) := by
  have key : (∀ d, flook a ns l = some d → ∃ e, es.find? (·.key.isStr a) = some e ∧ VR R ρ pu d e.val) ∧ (flook a ns l = none → es.find? (·.key.isStr a) = none) ∧ es.any (·.refKey) = false := by
    induction ns generalizing l es with
    | nil =>
      (first | exact Mine.ns h | exact Mine.ft h | exact Mine.sn h | exact Mine.tf h | cases h)
      exact ⟨(fun d e => nomatch e), fun _ => rfl, rfl⟩
    | cons n ns ih =>
      cases h with
      | cons hk hv hr =>
        rename_i dd ds e es t
        obtain ⟨i1, i2, i3⟩ := ih hr
        have hs : e.key.isStr a = seq n a := by rw [hk, isStr_iff]
        have hrk : e.refKey = false := by
          unfold DictEntry.refKey; rw [hk]
        refine ⟨fun d q => ?_, fun q => ?_, ?_⟩
        · unfold flook at q
          rw [List.find?_cons, hs]
          (first | (revert q; refine mb (fun _ q => ?_) (fun _ q => ?_)) | split at q)
          · rename_i hq
            (first | exact Mine.ns q | exact Mine.ft q | exact Mine.sn q | exact Mine.tf q | cases q)
            rw [hq]
            exact ⟨e, rfl, hv⟩
          · rename_i hq
            rw [hq]
            exact i1 d q
        · unfold flook at q
          rw [List.find?_cons, hs]
          (first | (revert q; refine mb (fun _ q => ?_) (fun _ q => ?_)) | split at q)
          · (first | exact Mine.ns q | exact Mine.ft q | exact Mine.sn q | exact Mine.tf q | cases q)
          · rename_i hq
            rw [hq]
            exact i2 q
        · rw [List.any_cons, hrk, i3]; rfl
  obtain ⟨k1, k2, k3⟩ := key
  refine ⟨fun d q => ?_, fun q => ?_⟩
  · obtain ⟨e, h1, h2⟩ := k1 d q
    exact ⟨e.val, by unfold getL; rw [h1], h2⟩
  · unfold getL
    rw [k2 q, k3]; rfl
set_option tactic.hygienic true in
/-- an object and its dict -/
theorem Inv.inst {R : Rc} {l : List (Str × V)} {hh : List MO} {h : Heap} (I : Inv R Z env h₀ L fr own ⟨l, hh⟩ ρ pu h) {n : Nat} {C : Addr} {ns : List Str} {vs : List V} {x : Value} (hn : hh[n]? = some (.obj C ns vs)) (hx : VR R ρ pu (.loc n) x) :
    ∃ a ox es k, x = .ref a ∧ InstAt h a ox C (some (dictOf es k)) ∧ VRd R ρ pu ns vs es := by
  obtain ⟨m, mm, tb, chs, W⟩ := I
  obtain ⟨ad, c, e1, e2, e3, _⟩ := W.ms.at hn
  obtain ⟨_, rfl, hr⟩ := hx.loc_inv; clear hx
  rw [e1] at hr
  (first | exact Mine.ns hr | exact Mine.ft hr | exact Mine.sn hr | exact Mine.tf hr | cases hr)
  obtain ⟨_, _, _, rfl, hvs⟩ := e3.obj_inv; clear e3
  rename_i dx es k
  have hm : ∀ q ∈ [(ad, instObj C dx), (dx, dictOf es k)], q ∈ LED fr own tb chs pu := fun q hq =>
    List.mem_append_right _ (List.mem_append_right _ (List.mem_append_right _ (List.mem_append_left _ (List.mem_flatten.mpr ⟨_, List.mem_of_getElem? e2, hq⟩))))
  exact ⟨ad, _, es, k, rfl, InstAt.of_news W.N (hm _ (List.mem_cons_self ..)) (hm _ (List.mem_cons_of_mem _ (List.mem_cons_self ..))), hvs⟩
theorem Inv.fr0 {R : Rc} {h : Heap} (I : Inv R Z env h₀ L fr own st ρ pu h) : ∃ m, Fr h₀ L h m := by
  obtain ⟨m, mm, tb, chs, W⟩ := I
  exact ⟨m, W.F⟩
theorem own_ok (P : SaOk G p) (Fm : Frm G A sc fenv env h₀ L d) {C : Addr} {ns : List Str} {vs : List V} {a : Str} {r : V} {x : Addr} {ox : Obj} {es : List DictEntry} {k : Nat} {expr : Bool} {Q : Value → Shared → Prop} (e : ownV p C ns vs a = some r)
    (I : Inv G.R Z env h₀ L fr own st ρ pu s.heap) (IA : InstAt s.heap x ox C (some (dictOf es k))) (hv : VRd G.R ρ pu ns vs es) (hQ : EP G.R Z env h₀ L fr own st ρ pu s r Q) : wpAny (model G.prog G.w) A (getAttr (.ref x) a expr) Q noE s := by
  refine opq fun GG kk => ?_
  obtain ⟨m, F⟩ := I.fr0
  unfold ownV at e
  revert e; refine zB fun _ e => ?_
  rename_i hsa
  obtain ⟨IO, hf⟩ := P.sa _ _ hsa
  obtain ⟨v, h1, h2⟩ := (hv.find a).1 r e
  refine kk ?_
  exact get_own F Fm.kin IA IO.g IO.d hf rfl h1 h2.handed (hQ.here h2 I)
set_option tactic.hygienic true in
theorem att_ok (P : SaOk G p) : AttOk G p := by
  intro h o a r e A sc fenv env h₀ L d Fm Z fr own l ρ pu s x Q I hx hQ
  unfold attrV at e
  (first | (revert e; refine mb (fun _ e => ?_) (fun _ e => ?_)) | split at e)
  · rename_i C ns vs
    obtain ⟨_, _, _, _, rfl, h1, h2, h3⟩ := hx.obj_inv; clear hx
    have IA := (I.inPu _ h1)
    have ID := (I.inPu _ h2)
    exact own_ok P Fm e I ⟨IA, rfl, rfl, ID⟩ h3 hQ
  · (first | (revert e; refine mb (fun _ e => ?_) (fun _ e => ?_)) | split at e)
    · rename_i hn
      obtain ⟨ad, ox, es, k, rfl, IA, hv⟩ := I.inst hn hx
      exact own_ok P Fm e I IA hv hQ
    · (first | exact Mine.ns e | exact Mine.ft e | exact Mine.sn e | exact Mine.tf e | cases e)
  · (first | exact Mine.ns e | exact Mine.ft e | exact Mine.sn e | exact Mine.tf e | cases e)
theorem met_own (P : SaOk G p) (Fm : Frm G A sc fenv env h₀ L d) {C : Addr} {ns : List Str} {vs : List V} {a : Str} {r : V} {x : Addr} {ox : Obj} {es : List DictEntry} {k : Nat} {pl : Sem Bool} {Q : Value × List Value → Shared → Prop} (hsa : p.sa C a = true) (e : flook a ns vs = some r)
    (I : Inv G.R Z env h₀ L fr own st ρ pu s.heap) (IA : InstAt s.heap x ox C (some (dictOf es k))) (hv : VRd G.R ρ pu ns vs es)
    (hQ : EP G.R Z env h₀ L fr own st ρ pu s r (fun v s' => Q (v, []) s')) : wpAny (model G.prog G.w) A (getMethod (.ref x) a pl) Q noE s := by
  refine opq fun GG kk => ?_
  obtain ⟨IO, hf⟩ := P.sa _ _ hsa
  have X := I.inK Fm.kin
  have hcan := PySem.F.canon_object_ga
  obtain ⟨hga, hk⟩ := plainGet_of IO.g
  refine kk ?_
  unfold getMethod specialOf
  refine wpAny_bind (wpAny_bind (IA.type.here ((looks_findIn X hga).here ?_)))
  dsimp only
  rw [hcan, if_neg (by decide)]
  refine wpAny_bind (wpAny_bind (IA.type.here ((looks_findIn X hk).here ?_)))
  refine wpAny_bind (wpAny_bind (IA.type.here ((looks_findIn X hf).here ?_)))
  refine wpAny_bind (wpAny_mono (own_ok P Fm (by unfold ownV; rw [hsa]; exact e) I IA hv (Q := fun v s' => Q (v, []) s') hQ) (fun v s' hq => wpAny_pure hq) fun _ _ z => z)
set_option tactic.hygienic true in
theorem met_ok (P : SaOk G p) : MetOk G p := by
  intro h o a f first e A sc fenv env h₀ L d Fm Z fr own l ρ pu s x pl Q I hx hQ
  have here : ∀ y, VR G.R ρ pu f y → Q (y, (match (generalizing := false) first with | true => [x] | false => [])) s := fun y hy => hQ y ρ pu s (Pre.refl _) (Sub.refl _) hy I (Same.refl s)
  unfold methT at e
  (first | (revert e; refine mb (fun _ e => ?_) (fun _ e => ?_)) | split at e)
  · rename_i n
    (first | (revert e; refine mb (fun _ e => ?_) (fun _ e => ?_)) | split at e)
    · rename_i C ns vs hn
      obtain ⟨ad, ox, es, k, rfl, IA, hv⟩ := I.inst hn hx
      (first | (revert e; refine mb (fun _ e => ?_) (fun _ e => ?_)) | split at e)
      · rename_i f' hfl
        revert e; refine zB fun _ e => ?_
        rename_i hsa
        obtain ⟨rfl, rfl⟩ := oPi e
        exact met_own P Fm hsa hfl I IA hv fun v ρ' pu' s' a b c dd ee => hQ v ρ' pu' s' a b c dd ee
      · rename_i hfl
        revert e; refine zONat fun _ _ e => ?_
        rename_i g hmt
        obtain ⟨rfl, rfl⟩ := oPi e
        obtain ⟨IO, hf, hfn, hhd⟩ := P.mt _ _ _ hmt
        obtain ⟨m, F⟩ := I.fr0
        exact method_inst F Fm.kin IA IO.g hf hfn ((hv.find a).2 hfl) (here _ (.val hhd))
    · rename_i lst hn
      obtain ⟨m, mm, tb, chs, W⟩ := id I
      obtain ⟨ad, c, e1, e2, e3, _⟩ := W.ms.at hn
      obtain ⟨_, rfl, hr⟩ := hx.loc_inv; clear hx
      rw [e1] at hr
      (first | exact Mine.ns hr | exact Mine.ft hr | exact Mine.sn hr | exact Mine.tf hr | cases hr)
      obtain ⟨_, _, rfl, hvs⟩ := e3.lst_inv; clear e3
      rename_i ws k
      have ho : s.heap.get? ad = some (PySem.W.listOf ws.toArray k) := (W.N _ (List.mem_append_right _ (List.mem_append_right _ (List.mem_append_right _ (List.mem_append_left _ (List.mem_flatten.mpr ⟨_, List.mem_of_getElem? e2, List.mem_singleton.mpr rfl⟩)))))).1
      (first | (revert e; refine mb (fun _ e => ?_) (fun _ e => ?_)) | split at e)
      · rename_i ha
        obtain ⟨rfl, rfl⟩ := oPi e
        obtain rfl := (seq_iff _ _).mp ha
        exact Calls.getMethod_list_append ho rfl rfl (here _ (.bi 10))
      · (first | (revert e; refine mb (fun _ e => ?_) (fun _ e => ?_)) | split at e)
        · rename_i ha
          obtain ⟨rfl, rfl⟩ := oPi e
          obtain rfl := (seq_iff _ _).mp ha
          exact getMethod_builtin ⟨_, ho, rfl⟩ PySem.F.plainAttrs_list PySem.F.slot_list_index PySem.F.type_list_index (fun a e => by (first | exact Mine.ns e | exact Mine.ft e | exact Mine.sn e | exact Mine.tf e | cases e); exact ⟨_, ho, rfl⟩) (here _ (.bi 11))
        · revert e; refine zB fun _ e => ?_
          rename_i ha
          obtain ⟨rfl, rfl⟩ := oPi e
          obtain rfl := (seq_iff _ _).mp ha
          exact getMethod_builtin ⟨_, ho, rfl⟩ PySem.F.plainAttrs_list PySem.F.slot_list_pop PySem.F.type_list_pop (fun a e => by (first | exact Mine.ns e | exact Mine.ft e | exact Mine.sn e | exact Mine.tf e | cases e); exact ⟨_, ho, rfl⟩) (here _ (.bi 14))
    · (first | exact Mine.ns e | exact Mine.ft e | exact Mine.sn e | exact Mine.tf e | cases e)
  · revert e; refine zB fun _ e => ?_
    rename_i ha
    obtain ⟨rfl, rfl⟩ := oPi e
    obtain rfl := (seq_iff _ _).mp ha
    obtain ⟨_, _, _, rfl, hm, _⟩ := hx.lst_inv; clear hx
    have ho := I.inPu _ hm
    exact getMethod_builtin ⟨_, ho, rfl⟩ PySem.F.plainAttrs_list PySem.F.slot_list_index PySem.F.type_list_index (fun a e => by (first | exact Mine.ns e | exact Mine.ft e | exact Mine.sn e | exact Mine.tf e | cases e); exact ⟨_, ho, rfl⟩) (here _ (.bi 11))
  · (first | (revert e; refine mb (fun _ e => ?_) (fun _ e => ?_)) | split at e)
    · rename_i ha
      obtain ⟨rfl, rfl⟩ := oPi e
      obtain rfl := (seq_iff _ _).mp ha
      obtain ⟨_, rfl⟩ := hx.str_inv; clear hx
      exact GM.of _ (typeIs_str _ _ _) F.slot_str_split F.type_str_split GM.noRef (here _ (.bi 12))
    · revert e; refine zB fun _ e => ?_
      rename_i ha
      obtain ⟨rfl, rfl⟩ := oPi e
      obtain rfl := (seq_iff _ _).mp ha
      obtain ⟨_, rfl⟩ := hx.str_inv; clear hx
      exact GM.of _ (typeIs_str _ _ _) F.slot_str_index F.type_str_index GM.noRef (here _ (.bi 13))
  · (first | exact Mine.ns e | exact Mine.ft e | exact Mine.sn e | exact Mine.tf e | cases e)
/-! ## stores -/
set_option tactic.hygienic true in
theorem VRd.put {R : Rc} {ns : List Str} {l : List V} {es : List DictEntry} (h : VRd R ρ pu ns l es) {a : Str} {dv : V} {v : Value} (hv : VR R ρ pu dv v) (hsh : Int) (t : Tok) :
    VRd R ρ pu (fput a dv ns l).1 (fput a dv ns l).2 (putL a hsh (.str a t) v es) ∧ (putL a hsh (.str a t) v es).length ≤ ns.length + 1 := by
  induction ns generalizing l es with
  | nil => (first | exact Mine.ns h | exact Mine.ft h | exact Mine.sn h | exact Mine.tf h | cases h); exact ⟨.cons rfl hv .nil, Nat.le_refl _⟩
  | cons n ns ih =>
    cases h with
    | cons hk hd hr =>
      rename_i dd ds e es t'
      obtain ⟨i1, i2⟩ := ih hr
      have hs : e.key.isStr a = seq n a := by rw [hk, isStr_iff]
      unfold fput putL
      rw [hs]
      cases hq : seq n a with
      | true =>
        have hlen : es.length = ns.length := by
          clear i1 i2 ih
          induction ns generalizing ds es with
          | nil => (first | exact Mine.ns hr | exact Mine.ft hr | exact Mine.sn hr | exact Mine.tf hr | cases hr); rfl
          | cons _ _ ih2 => cases hr with | cons _ _ r => simp [ih2 r]
        exact ⟨.cons hk hv hr, by simp [hlen]⟩
      | false => exact ⟨.cons hk hd i1, by simpa using i2⟩
theorem flat_set_all {α : Type} {cs : List (List α)} {n : Nat} {c : List α} (h : cs[n]? = some c) : ∃ pre post, cs.flatten = pre ++ (c ++ post) ∧ ∀ c', (cs.set n c').flatten = pre ++ (c' ++ post) := by
  induction cs generalizing n with
  | nil => (first | exact Mine.ns h | exact Mine.ft h | exact Mine.sn h | exact Mine.tf h | cases h)
  | cons x r ih =>
    cases n with
    | zero => (first | exact Mine.ns h | exact Mine.ft h | exact Mine.sn h | exact Mine.tf h | cases h); exact ⟨[], r.flatten, by simp, fun _ => by simp⟩
    | succ n =>
      obtain ⟨pre, post, a, b⟩ := ih h
      exact ⟨x ++ pre, post, by simp [a], fun c' => by simp [b]⟩
theorem Upd.mid {d : Addr} {o o' : Obj} : ∀ {pre post : Led}, (((pre ++ (d, o) :: post)).map (·.1)).Nodup → Upd d o o' (pre ++ (d, o) :: post) (pre ++ (d, o') :: post)
  | [], post, h => .head fun q hq e => by
    rw [List.nil_append, List.map_cons, List.nodup_cons] at h
    exact h.1 (List.mem_map.mpr ⟨q, hq, e⟩)
  | q :: pre, post, h => by
    rw [List.cons_append, List.map_cons, List.nodup_cons] at h
    refine .tail (fun e => h.1 ?_) (Upd.mid h.2)
    rw [e]
    exact List.mem_map_of_mem (List.mem_append_right _ (List.mem_cons_self ..))
set_option tactic.hygienic true in
theorem set_ok (P : SaOk G p) : SetOk G p := by
  intro n C ns vs a dv hsa A sc fenv env h₀ L d Fm Z fr own st ρ pu s x v Q hn I hx hv hQ
  replace hsa := and2 hsa
  obtain ⟨IO, hf⟩ := P.sa _ _ hsa.1
  obtain ⟨m, mm, tb, chs, W⟩ := I
  obtain ⟨ad, c, e1, e2, e3, e4⟩ := W.ms.at hn
  obtain ⟨_, rfl, hr⟩ := hx.loc_inv; clear hx
  rw [e1] at hr
  (first | exact Mine.ns hr | exact Mine.ft hr | exact Mine.sn hr | exact Mine.tf hr | cases hr)
  obtain ⟨_, _, _, rfl, hvs⟩ := e3.obj_inv; clear e3
  rename_i dx es k
  obtain ⟨pre, post, p1, p2⟩ := flat_set_all e2
  have hm : ∀ q ∈ [(ad, instObj C dx), (dx, dictOf es k)], q ∈ LED fr own tb chs pu := fun q hq =>
    List.mem_append_right _ (List.mem_append_right _ (List.mem_append_right _ (List.mem_append_left _ (List.mem_flatten.mpr ⟨_, List.mem_of_getElem? e2, hq⟩))))
  have IA := InstAt.of_news W.N (hm _ (List.mem_cons_self ..)) (hm _ (List.mem_cons_of_mem _ (List.mem_cons_self ..)))
  obtain ⟨hput, hlen⟩ := hvs.put (a := a) hv (PyData.keyHash G.w.params a) (s.toks + 1)
  have hgl : (getL a es).isSome = true := by
    cases hq : flook a ns vs with
    | none => rw [(hvs.find a).2 hq]; rfl
    | some d' => obtain ⟨v', h1, _⟩ := (hvs.find a).1 d' hq; rw [h1]; rfl
  have eL : LED fr own tb chs pu = (fr ++ (own ++ (tb ++ (pre ++ [(ad, instObj C dx)])))) ++ (dx, dictOf es k) :: (post ++ pu) := by
    unfold LED; rw [p1]; simp
  have eL' : ∀ o', LED fr own tb (chs.set n [(ad, instObj C dx), (dx, o')]) pu = (fr ++ (own ++ (tb ++ (pre ++ [(ad, instObj C dx)])))) ++ (dx, o') :: (post ++ pu) := by
    intro o'
    unfold LED; rw [p2]; simp
  have N0 := W.N
  have nd0 := W.nd
  rw [eL] at N0 nd0
  refine set_dict (es' := putL a (PyData.keyHash G.w.params a) (.str a (s.toks + 1)) v es) (n' := putN a es k) W.F Fm.kin N0 IA rfl IO.s IO.o ?_ IO.d hgl rfl (Upd.mid nd0) ?_ ?_
  · unfold takerIn; rw [hf]; rfl
  · have := Nat.le_of_ble_eq_true hsa.2
    lia
  · intro h' F' N'
    rw [← eL'] at N'
    have hset := e4 (.obj C (fput a dv ns vs).1 (fput a dv ns vs).2) [(ad, instObj C dx), (dx, dictOf (putL a (PyData.keyHash G.w.params a) (.str a (s.toks + 1)) v es) (putN a es k))] (.obj hput)
    exact hQ ρ pu { s with heap := h', toks := s.toks + 2 } (Pre.refl _) (Sub.refl _) ⟨m, mm, tb, _, W.set (a := ad) hn e2 hset rfl F' N'⟩ ⟨h', _, rfl⟩
end
end Mine

end
section -- P5
namespace Mine
open PySem PySem.W PySem.Calls PyProof.Rows

section
variable {Z : ZP} {G : Glb} {p : Par} {A : Around} {sc : Scope} {fenv env : Env} {h₀ : Heap} {L : Addr} {d : Nat} {fr own : Led} {st st' : St} {ρ ρ' : List Addr} {pu pu' : Led} {s : Shared} {ih : Ev}

theorem subscripted_plain {slice : Expr} {o i : Value} (h : ∀ a b c q, slice ≠ .Slice a b c q) : subscripted slice false o i = operate [o, i] (getItem o i) := by
  (first | exact Mine.ns slice | exact Mine.ft slice | exact Mine.sn slice | exact Mine.tf slice | cases slice) <;> first | rfl | exact absurd rfl (h _ _ _ _)
theorem VRs.nth' {R : Rc} : ∀ {l : List V} {vs : List Value}, VRs R ρ pu l vs → ∀ {n : Nat} {r : V}, l[n]? = some r → ∃ v, vs[n]? = some v ∧ VR R ρ pu r v
  | [], _, _, _, _, e => by (first | exact Mine.ns e | exact Mine.ft e | exact Mine.sn e | exact Mine.tf e | cases e)
  | d :: l, _, h, n, r, e => by
    obtain ⟨_, _, rfl, h1, h2⟩ := h.cons_inv; clear h
    cases n with
    | zero => (first | exact Mine.ns e | exact Mine.ft e | exact Mine.sn e | exact Mine.tf e | cases e); exact ⟨_, rfl, h1⟩
    | succ n => exact VRs.nth' (l := l) h2 e
theorem VRs.nth {R : Rc} {l : List V} {vs : List Value} (h : VRs R ρ pu l vs) {n : Nat} {r : V} (e : nthV l n = some r) : ∃ v, vs[n]? = some v ∧ VR R ρ pu r v ∧ n < 10000 := by
  unfold nthV at e
  revert e; refine zB fun _ e => ?_
  rename_i hb
  obtain ⟨v, a, b⟩ := VRs.nth' h e
  exact ⟨v, a, b, Nat.blt_eq.mp hb⟩
theorem list_at {a : Addr} {vs : List Value} {n : Nat} {value slice : Expr} {m : Nat} {t : Tok} {v : Value} {Q : Value → Shared → Prop} (ho : s.heap.get? a = some (PySem.W.listOf vs.toArray n)) (hs : ∀ a b c q, slice ≠ .Slice a b c q) (hm : m < 10000) (hv : vs[m]? = some v) (hQ : Q v s) :
    wpAny (model G.prog G.w) A (subscriptTail value slice (.ref a) (.int (Int.ofNat m) t)) Q noE s := by
  have hl : s.heap.IsList a vs.toArray := ⟨_, ho, rfl, n, rfl⟩
  refine tail_any hl.typeIs slot_list_getitem.lookup (wpAny_getItem_list hl (Int.natCast_nonneg m) (by show (m : Int) < _; lia) ?_ hQ) (subscripted_plain hs)
  simpa using hv
theorem tup_at {a : Addr} {vs : List Value} {value slice : Expr} {m : Nat} {t : Tok} {v : Value} {Q : Value → Shared → Prop} (ho : IsTup s.heap a vs.toArray) (hs : ∀ a b c q, slice ≠ .Slice a b c q) (hm : m < 10000) (hv : vs[m]? = some v) (hQ : Q v s) :
    wpAny (model G.prog G.w) A (subscriptTail value slice (.ref a) (.int (Int.ofNat m) t)) Q noE s := by
  refine item_tupleT (j := m) ho (by show _ ≤ (m : Int); lia) (by show (m : Int) < _; lia) ?_ hv hQ (subscripted_plain hs)
  have hl : m < vs.length := (List.getElem?_eq_some_iff.mp hv).1
  unfold seqIndex?
  simp
  lia
set_option tactic.hygienic true in
/-- a list, made or in the heap -/
theorem Inv.lst {R : Rc} {l : List (Str × V)} {hh : List MO} {h : Heap} (I : Inv R Z env h₀ L fr own ⟨l, hh⟩ ρ pu h) {a : V} {x : Value} {l' : List V} (hx : VR R ρ pu a x) (e : lstD hh a = some l') :
    ∃ ad vs n, x = .ref ad ∧ h.get? ad = some (PySem.W.listOf (List.toArray vs) n) ∧ VRs R ρ pu l' vs := by
  unfold lstD at e
  (first | (revert e; refine mb (fun _ e => ?_) (fun _ e => ?_)) | split at e)
  · rename_i k hk0
    obtain rfl := locOf_iff hk0
    obtain ⟨m, mm, tb, chs, W⟩ := id I
    obtain ⟨ad, c, e1, e2, e3, _⟩ := W.ms.at (lstAt_iff e)
    obtain ⟨_, rfl, hr⟩ := hx.loc_inv; clear hx
    rw [e1] at hr
    (first | exact Mine.ns hr | exact Mine.ft hr | exact Mine.sn hr | exact Mine.tf hr | cases hr)
    obtain ⟨_, _, rfl, hvs⟩ := e3.lst_inv; clear e3
    exact ⟨ad, _, _, rfl, (W.N _ (List.mem_append_right _ (List.mem_append_right _ (List.mem_append_right _ (List.mem_append_left _ (List.mem_flatten.mpr ⟨_, List.mem_of_getElem? e2, List.mem_singleton.mpr rfl⟩)))))).1, hvs⟩
  · obtain rfl := lstO_iff e
    obtain ⟨_, _, _, rfl, hm, hvs⟩ := hx.lst_inv; clear hx
    exact ⟨_, _, _, rfl, I.inPuH _ hm, hvs⟩
set_option tactic.hygienic true in
theorem sub_ok (X : FxOk G p) : SubOk G p := by
  intro h o i r e A sc fenv env h₀ L d Fm Z fr own l ρ pu s x y value slice Q hs I hx hy hQ
  unfold subV at e
  have fxc : p.fx 3 [o, i] = some r → wpAny (model G.prog G.w) A (subscriptTail value slice x y) Q noE s := by
    intro e
    obtain ⟨a, vs, n, m, t, v, rfl, hm, rfl, hlt, hv, hr⟩ := X.sub _ _ _ e _ _ _ _ hx hy
    rcases hm with hm | hm
    · exact list_at (I.inPu _ hm) hs hlt hv (hQ.here (tk := s.toks) hr I)
    · exact tup_at ⟨_, I.inPu _ hm, rfl, _, rfl⟩ hs hlt hv (hQ.here (tk := s.toks) hr I)
  (first | (revert e; refine mb (fun _ e => ?_) (fun _ e => ?_)) | split at e)
  · rename_i n hn
    obtain rfl := natOf_iff hn
    obtain ⟨t, rfl⟩ := hy.int_inv; clear hy
    (first | (revert e; refine mb (fun _ e => ?_) (fun _ e => ?_)) | split at e)
    · rename_i l' hd
      obtain ⟨a, vs, k, rfl, g, hr⟩ := I.lst hx hd
      obtain ⟨v, h1, h2, h3⟩ := hr.nth e
      exact list_at g hs h3 h1 (hQ.here (tk := s.toks) h2 I)
    · (first | (revert e; refine mb (fun _ e => ?_) (fun _ e => ?_)) | split at e)
      · rename_i l' hd
        obtain rfl := tupOf_iff hd
        obtain ⟨a, vs, rfl, ht, hr⟩ := hx.tup_inv I Fm.kin
        obtain ⟨v, h1, h2, h3⟩ := hr.nth e
        exact tup_at ht hs h3 h1 (hQ.here (tk := s.toks) h2 I)
      · (first | (revert e; refine mb (fun _ e => ?_) (fun _ e => ?_)) | split at e)
        · rename_i z hd
          obtain rfl := strO_iff hd
          obtain ⟨hb, e⟩ := bif_on e
          have hb := Nat.blt_eq.mp hb
          obtain ⟨c, h1, rfl⟩ := Option.map_eq_some_iff.mp e
          obtain ⟨u, rfl⟩ := hx.str_inv; clear hx
          refine tail_any (typeIs_str _ _ _) F.slot_str_getitem.lookup (P.getItem_str (c := c) ?_ ?_ (hQ.here (.str _ _) I)) (subscripted_plain hs)
          · have h1 : ¬ (Int.ofNat n < -(2 ^ 63)) := by show ¬ ((n : Int) < _); lia
            have h2 : ¬ (Int.ofNat n ≥ 2 ^ 63) := by show ¬ ((n : Int) ≥ _); lia
            simp [h1, h2]
            lia
          · have hl : n < z.length := by
              have := (List.getElem?_eq_some_iff.mp h1).1
              simpa [Str.length] using this
            have : seqIndex? (Int.ofNat n) z.length = some n := by
              unfold seqIndex?
              simp
              lia
            rw [this]
            simpa using h1
        · exact fxc e
  · exact fxc e

theorem str_add_eq (x y : Str) : (⟨(x.cps.toList ++ y.cps.toList).toArray⟩ : Str) = x ++ y := by
  show _ = Str.mk (x.cps ++ y.cps)
  rw [Str.mk.injEq]
  apply Array.ext'
  simp
theorem divisor_iff {b : V} {n : Nat} (h : divisor b = some n) : b = .int (.ofNat n) ∧ 0 < n ∧ n < 1000000 := by
  obtain ⟨k, h1, h⟩ := bind2 h
  obtain ⟨q, rfl⟩ := bif_some h
  replace q := and2 q
  exact ⟨natOf_iff h1, Nat.blt_eq.mp q.1, Nat.blt_eq.mp q.2⟩
set_option tactic.hygienic true in
theorem bin_ok (PO : ParOk G p) : BinOk G := by
  intro h op a b r e A sc fenv env h₀ L d Fm Z fr own l ρ pu s x y Q I hx hy hQ
  (first | exact Mine.ns op | exact Mine.ft op | exact Mine.sn op | exact Mine.tf op | cases op) <;> try exact ns e
  · -- add
    replace e : addV h a b = some r := e
    unfold addV at e
    (first | (revert e; refine mb (fun _ e => ?_) (fun _ e => ?_)) | split at e)
    · rename_i j hj
      obtain rfl := intOf_iff hj
      obtain ⟨_, rfl⟩ := hy.int_inv; clear hy
      (first | (revert e; refine mb (fun _ e => ?_) (fun _ e => ?_)) | split at e)
      · rename_i i hi
        obtain rfl := intOf_iff hi
        obtain ⟨_, rfl⟩ := bif_some e
        obtain ⟨_, rfl⟩ := hx.int_inv; clear hx
        exact PyProof.Rows.add_int (hQ.here (.int _ _) I)
      · obtain ⟨q, hq, e1⟩ := bind2 e
        clear e
        obtain rfl := offOf_iff hq
        obtain ⟨_, rfl⟩ := bif_some e1
        obtain ⟨_, t, hk, rfl⟩ := hx.off_inv; clear hx
        refine PyProof.Rows.add_int (hQ.here ?_ I)
        rw [Int.add_assoc]
        exact .off _ hk
    · (first | (revert e; refine mb (fun _ e => ?_) (fun _ e => ?_)) | split at e)
      · rename_i w hw
        obtain rfl := strO_iff hw
        obtain ⟨u, hu, e1⟩ := bind2 e
        clear e
        obtain rfl := strO_iff hu
        obtain ⟨hsz, rfl⟩ := bif_some e1
        have hsz := Nat.le_of_ble_eq_true hsz
        obtain ⟨t, rfl⟩ := hx.str_inv; clear hx
        obtain ⟨t', rfl⟩ := hy.str_inv; clear hy
        refine P.add_str ?_
        rw [str_add_eq] at hQ
        split
        · rename_i hu
          have : u ++ w = w := by
            rw [← str_add_eq]
            have hu : u.cps.size = 0 := by simpa [Str.length] using hu
            have : u.cps.toList = [] := by rw [← List.length_eq_zero_iff]; simpa using hu
            rw [this]; rfl
          rw [this] at hQ
          exact hQ.here (tk := s.toks) (.str _ _) I
        · split
          · rename_i hu
            have : u ++ w = u := by
              rw [← str_add_eq]
              have hu : w.cps.size = 0 := by simpa [Str.length] using hu
              have : w.cps.toList = [] := by rw [← List.length_eq_zero_iff]; simpa using hu
              rw [this, List.append_nil]
            rw [this] at hQ
            exact hQ.here (tk := s.toks) (.str _ _) I
          · refine ⟨?_, hQ.here (.str _ _) I⟩
            rw [← str_add_eq, sizeLine_eq]
            show (Array.size _) ≤ _
            simp only [List.size_toArray]
            rw [List.length_append]
            exact Nat.le_trans hsz (by decide)
      · obtain ⟨u, hda, e⟩ := bind2 e
        obtain ⟨w, hdb, e⟩ := bind2 e
        obtain ⟨hsz, rfl⟩ := bif_some e
        have hsz := Nat.le_of_ble_eq_true hsz
        obtain ⟨a1, vs, n, rfl, g1, v1⟩ := I.lst hx hda
        obtain ⟨a2, ws, n2, rfl, g2, v2⟩ := I.lst hy hdb
        have l1 : s.heap.IsList a1 vs.toArray := ⟨_, g1, rfl, n, rfl⟩
        have l2 : s.heap.IsList a2 ws.toArray := ⟨_, g2, rfl, n2, rfl⟩
        obtain ⟨m, mm, tb, chs, W⟩ := id I
        refine add_arrays W.F W.N l1 l2 (fun h' F' N' => ?_) ?_
        · have fs : s.heap.objs.size ∉ (LED fr own tb chs pu).map (·.1) := fresh_lt (News.lt W.N)
          have W' := W.pure PO.ok F' N' fs
          have sub : Sub pu ((s.heap.objs.size, ({ cls := .type "list", data := .seq (vs.toArray.toList ++ ws.toArray.toList).toArray } : Obj)) :: pu) := fun p hp => List.mem_cons_of_mem _ hp
          exact hQ _ ρ _ _ (Pre.refl _) sub (.lst (vs := vs.toArray.toList ++ ws.toArray.toList) (n := 0) (List.mem_cons_self ..) (VRs.append (v1.mono (Pre.refl _) sub) (v2.mono (Pre.refl _) sub))) ⟨m, mm, tb, chs, W'⟩ ⟨_, s.toks, rfl⟩
        · have e1 := v1.length
          have e2 := v2.length
          rw [sizeLine_eq]
          simp only [List.size_toArray]
          lia
  · -- mult
    obtain ⟨i, hi, e⟩ := bind2 e
    obtain ⟨j, hj, e⟩ := bind2 e
    obtain ⟨hsm, rfl⟩ := bif_some e
    replace hsm := and2 hsm
    obtain rfl := intOf_iff hi
    obtain rfl := intOf_iff hj
    obtain ⟨_, rfl⟩ := hx.int_inv; clear hx; obtain ⟨_, rfl⟩ := hy.int_inv; clear hy
    have := small_bound hsm.1
    exact P.mul_int (hQ.here (.int _ _) I) (IntMulOk.of_left (intBits_le_64 (by lia) (by lia)))
  · -- mod
    obtain ⟨z, h1, e⟩ := bind2 e
    obtain ⟨n, h2, e⟩ := bind2 e
    obtain rfl := Option.some.inj e
    obtain rfl := intOf_iff h1
    obtain ⟨rfl, h3, h4⟩ := divisor_iff h2
    obtain ⟨_, rfl⟩ := hx.int_inv; clear hx; obtain ⟨_, rfl⟩ := hy.int_inv; clear hy
    refine AutoIntOps.mod_1 (by intro q; have := eq_of_beq q; cases n with | zero => lia | succ n => (first | exact Mine.ns this | exact Mine.ft this | exact Mine.sn this | exact Mine.tf this | cases this)) ?_
    exact hQ.here (.int _ _) I
  · -- floordiv
    obtain ⟨z, h1, e⟩ := bind2 e
    obtain ⟨n, h2, e⟩ := bind2 e
    obtain rfl := Option.some.inj e
    obtain rfl := intOf_iff h1
    obtain ⟨rfl, h3, h4⟩ := divisor_iff h2
    obtain ⟨_, rfl⟩ := hx.int_inv; clear hx; obtain ⟨_, rfl⟩ := hy.int_inv; clear hy
    refine AutoIntOps.floordiv_1 (by intro q; have := eq_of_beq q; cases n with | zero => lia | succ n => (first | exact Mine.ns this | exact Mine.ft this | exact Mine.sn this | exact Mine.tf this | cases this)) (by rw [PyProof.noPylong_small (by show n < _; lia)]; decide) ?_
    exact hQ.here (.int _ _) I
end
end Mine

end
section -- P6
namespace Mine
open PySem PySem.W PySem.Calls PyProof.Rows

section
variable {Z : ZP} {G : Glb} {p : Par} {A : Around} {sc : Scope} {fenv env : Env} {h₀ : Heap} {L : Addr} {d : Nat} {fr own : Led} {st st' : St} {ρ ρ' : List Addr} {pu pu' : Led} {s : Shared} {ih : Ev}

theorem isZero_iff {i : V} (h : isZero i = true) : i = .int 0 := by
  cases i with
  | int z =>
    cases z with
    | ofNat z =>
      have : z = 0 := Nat.eq_of_beq_eq_true h
      rw [this]; rfl
    | negSucc z => (first | exact Mine.ns h | exact Mine.ft h | exact Mine.sn h | exact Mine.tf h | cases h)
  | _ => (first | exact Mine.ns h | exact Mine.ft h | exact Mine.sn h | exact Mine.tf h | cases h)
set_option tactic.hygienic true in
theorem seqLen_cases {h : List MO} {d : V} {n : Nat} (e : seqLen h d = some n) : (∃ l, d = .tup l ∧ n = l.length) ∨ (∃ l, lstD h d = some l ∧ n = l.length) ∨ ∃ x, d = .str x ∧ n = x.cps.toList.length := by
  unfold seqLen at e
  (first | (revert e; refine mb (fun _ e => ?_) (fun _ e => ?_)) | split at e)
  · rename_i l hl
    exact .inr (.inl ⟨l, hl, (Option.some.inj e).symm⟩)
  · (first | (revert e; refine mb (fun _ e => ?_) (fun _ e => ?_)) | split at e)
    · rename_i l hl
      exact .inl ⟨l, tupOf_iff hl, (Option.some.inj e).symm⟩
    · obtain ⟨x, h1, e⟩ := bind2 e
      exact .inr (.inr ⟨x, strO_iff h1, (Option.some.inj e).symm⟩)
theorem b_len1 (Fm : Frm G A sc fenv env h₀ L d) {hh : List MO} {l : List (Str × V)} {o : V} {x : Value} {n : Nat} {Q : Value → Shared → Prop} (hd : seqLen hh o = some n) (hb : n < 10000) (I : Inv G.R Z env h₀ L fr own ⟨l, hh⟩ ρ pu s.heap) (hx : VR G.R ρ pu o x)
    (hQ : EP G.R Z env h₀ L fr own ⟨l, hh⟩ ρ pu s (.int (.ofNat n)) Q) : wpAny (model G.prog G.w) A (call (.builtin "len") [x]) Q noE s := by
  refine opq fun GG kk => ?_
  rcases seqLen_cases hd with ⟨l', rfl, rfl⟩ | ⟨l', h2, rfl⟩ | ⟨z, rfl, rfl⟩
  · obtain ⟨a, vs, rfl, ht, hr⟩ := hx.tup_inv I Fm.kin
    have e1 := hr.length
    refine kk ?_
    refine PyProof.Rows.len_tuple ht (by rw [List.size_toArray, ← e1]; lia) ?_
    rw [List.size_toArray, ← e1]
    exact hQ.here (.int _ _) I
  · obtain ⟨a, vs, n, rfl, g, hr⟩ := I.lst hx h2
    have e1 := hr.length
    refine kk ?_
    refine PyProof.Rows.len_list (items := vs.toArray) ⟨_, g, rfl, n, rfl⟩ (by rw [List.size_toArray, ← e1]; lia) ?_
    rw [List.size_toArray, ← e1]
    exact hQ.here (.int _ _) I
  · obtain ⟨t, rfl⟩ := hx.str_inv
    have e1 : z.length = z.cps.toList.length := by simp [Str.length]
    refine kk ?_
    refine P.len_str (by rw [e1]; lia) ?_
    rw [e1]
    exact hQ.here (.int _ _) I
theorem b_range1 (P : ParOk G p) {i : Int} {t : Tok} {Q : Value → Shared → Prop} (I : Inv G.R Z env h₀ L fr own st ρ pu s.heap) (hQ : EP G.R Z env h₀ L fr own st ρ pu s (.rng 0 i) Q) : wpAny (model G.prog G.w) A (call (.type "range") [.int i t]) Q noE s := by
  obtain ⟨m, mm, tb, chs, W⟩ := I
  refine call_range_1 ?_
  have W' := W.pure P.ok (W.F.push _) (News.push W.F W.N (rangeO 0 i s.toks t (s.toks + 1))) (fresh_lt (News.lt W.N))
  have sub : Sub pu ((s.heap.objs.size, rangeO 0 i s.toks t (s.toks + 1)) :: pu) := fun p hp => List.mem_cons_of_mem _ hp
  exact hQ _ ρ _ { s with heap := s.heap.push (rangeO 0 i s.toks t (s.toks + 1)), toks := s.toks + 1 + 1 } (Pre.refl _) sub (.rng (List.mem_cons_self ..)) ⟨m, mm, tb, chs, W'⟩ ⟨_, _, rfl⟩
theorem b_range2 (P : ParOk G p) {i j : Int} {t u : Tok} {Q : Value → Shared → Prop} (I : Inv G.R Z env h₀ L fr own st ρ pu s.heap) (hQ : EP G.R Z env h₀ L fr own st ρ pu s (.rng i j) Q) : wpAny (model G.prog G.w) A (call (.type "range") [.int i t, .int j u]) Q noE s := by
  obtain ⟨m, mm, tb, chs, W⟩ := I
  refine call_range_2 ?_
  have W' := W.pure P.ok (W.F.push _) (News.push W.F W.N (rangeO i j t u s.toks)) (fresh_lt (News.lt W.N))
  have sub : Sub pu ((s.heap.objs.size, rangeO i j t u s.toks) :: pu) := fun p hp => List.mem_cons_of_mem _ hp
  exact hQ _ ρ _ { s with heap := s.heap.push (rangeO i j t u s.toks), toks := s.toks + 1 } (Pre.refl _) sub (.rng (List.mem_cons_self ..)) ⟨m, mm, tb, chs, W'⟩ ⟨_, _, rfl⟩

/-! ## sorted -/
theorem allInts_are {R : Rc} {l : List V} : ∀ {is : List Int} {vs : List Value}, allInts l = some is → VRs R ρ pu l vs → IntsAre vs is ∧ is.length = l.length := by
  induction l with
  | nil => intro is vs e h; obtain rfl := Option.some.inj e; obtain rfl := h.nil_inv; exact ⟨.nil, rfl⟩
  | cons d r ih =>
    intro is vs e h
    obtain ⟨i, h1, e⟩ := bind2 e
    obtain ⟨l, h2, e⟩ := bind2 e
    obtain rfl := Option.some.inj e
    obtain ⟨_, _, rfl, hd, hr⟩ := h.cons_inv
    obtain ⟨_, rfl⟩ := (intOf_iff h1 ▸ hd : VR R ρ pu (.int i) _).int_inv
    obtain ⟨a, b⟩ := ih h2 hr
    exact ⟨.cons _ _ a, congrArg Nat.succ b⟩
theorem ints_VRs {R : Rc} : ∀ {is : List Int} {vs : List Value}, IntsAre vs is → VRs R ρ pu (is.map .int) vs
  | [], _, h => by (first | exact Mine.ns h | exact Mine.ft h | exact Mine.sn h | exact Mine.tf h | cases h); exact .nil
  | i :: r, _, h => by cases h with | cons _ _ h => exact .cons (.int _ _) (ints_VRs h)
theorem insI_perm (i : Int) : ∀ l : List Int, (insI i l).Perm (i :: l)
  | [] => .refl _
  | j :: r => by
    unfold insI
    split
    · exact .refl _
    · exact (List.Perm.cons j (insI_perm i r)).trans (List.Perm.swap i j r)
theorem sortI_perm : ∀ l : List Int, (sortI l).Perm l
  | [] => .refl _
  | i :: r => (insI_perm i _).trans (List.Perm.cons i (sortI_perm r))
theorem insI_sorted (i : Int) : ∀ l : List Int, l.Pairwise (· ≤ ·) → (insI i l).Pairwise (· ≤ ·)
  | [], _ => by simp [insI]
  | j :: r, h => by
    unfold insI
    rw [ilt_iff]
    have h1 := List.pairwise_cons.mp h
    split
    · rename_i hc
      have hc : i < j := by simpa using hc
      rw [List.pairwise_cons]
      refine ⟨fun x hx => ?_, h⟩
      rcases List.mem_cons.mp hx with rfl | hx
      · lia
      · have := h1.1 x hx; lia
    · rename_i hc
      have hc : ¬ i < j := by simpa using hc
      rw [List.pairwise_cons]
      refine ⟨fun x hx => ?_, insI_sorted i r h1.2⟩
      have hx := (insI_perm i r).mem_iff.mp hx
      rcases List.mem_cons.mp hx with rfl | hx
      · lia
      · exact h1.1 x hx
theorem sortI_sorted : ∀ l : List Int, (sortI l).Pairwise (· ≤ ·)
  | [] => .nil
  | i :: r => insI_sorted i _ (sortI_sorted r)
theorem b_sorted (P : ParOk G p) {hh : List MO} {l : List (Str × V)} {o : V} {x : Value} {l' : List V} {is : List Int} {Q : Value → Shared → Prop} (hd : lstD hh o = some l') (hi : allInts l' = some is) (hlen : l'.length < 64) (I : Inv G.R Z env h₀ L fr own ⟨l, hh⟩ ρ pu s.heap) (hx : VR G.R ρ pu o x)
    (hQ : EP G.R Z env h₀ L fr own ⟨l, hh⟩ ρ pu s (.lst ((sortI is).map .int)) Q) : wpAny (model G.prog G.w) A (call (.builtin "sorted") [x]) Q noE s := by
  refine opq fun GG kk => ?_
  obtain ⟨a, vs, n, rfl, g, hr⟩ := I.lst hx hd
  have e1 := hr.length
  obtain ⟨h1, h2⟩ := allInts_are hi hr
  obtain ⟨m, mm, tb, chs, W⟩ := I
  refine kk ?_
  refine sorted_N W.F W.N (ns := is) ⟨_, g, rfl, n, rfl⟩ h1 (by lia) fun h' vs' ns' k F' N' hI hp hs => ?_
  have hns : ns' = sortI is := List.Perm.eq_of_pairwise (le := (· ≤ ·)) (fun a b _ _ h1 h2 => Int.le_antisymm h1 h2) hs (sortI_sorted is) (hp.trans (sortI_perm is).symm)
  subst hns
  have fs : s.heap.objs.size + 1 ∉ (LED fr own tb chs pu).map (·.1) := fresh_lt fun q hq => Nat.lt_succ_of_lt (News.lt W.N q hq)
  have W' := W.pure P.ok F' N' fs
  have sub : Sub pu ((s.heap.objs.size + 1, seqObj "list" vs'.toArray k) :: pu) := fun p hp => List.mem_cons_of_mem _ hp
  exact hQ _ ρ _ { s with heap := h' } (Pre.refl _) sub (.lst (n := k) (List.mem_cons_self ..) (ints_VRs hI)) ⟨m, mm, tb, chs, W'⟩ ⟨_, s.toks, rfl⟩
/-! ## lists and tuples of things -/
theorem small_one' {a b : Int} (h1 : small a = true) (h2 : small b = true) : Builtin.Range.small a b 1 = true := by
  obtain ⟨q1, q2⟩ := small_bound h1
  obtain ⟨q3, q4⟩ := small_bound h2
  exact small_one q1 q2 q3 q4
theorem b_listRange (P : ParOk G p) (Fm : Frm G A sc fenv env h₀ L d) {a b : Int} {x : Value} {Q : Value → Shared → Prop} (hsm : (small a && small b && Nat.ble (b - a).toNat 10000) = true) (I : Inv G.R Z env h₀ L fr own st ρ pu s.heap) (hx : VR G.R ρ pu (.rng a b) x)
    (hQ : EP G.R Z env h₀ L fr own st ρ pu s (.lst (rngL (b - a).toNat a)) Q) : wpAny (model G.prog G.w) A (call (.type "list") [x]) Q noE s := by
  refine opq fun GG kk => ?_
  replace hsm := and3 hsm
  obtain ⟨⟨h1, h2⟩, h3⟩ := hsm
  have h3 := Nat.le_of_ble_eq_true h3
  obtain ⟨_, _, _, _, rfl, hm⟩ := hx.rng_inv; clear hx
  have hr := I.inPu _ hm
  obtain ⟨m, mm, tb, chs, W⟩ := I
  refine kk ?_
  refine call_list_range Fm.hand hr (small_one' h1 h2) (n := (b - a).toNat) (by rw [rangeSize_one]; split <;> lia) (by lia) fun h' tk acc' c' hk hS' hacc => ?_
  have fs : s.heap.objs.size ∉ (LED fr own tb chs pu).map (·.1) := fresh_lt (News.lt W.N)
  have F' : Fr h₀ L h' m := W.F.keeps hk
  have hL : L < s.heap.objs.size := W.F.ns.lt
  have N' : News h₀ L h' ((s.heap.objs.size, PySem.W.listOf acc'.toList.toArray c') :: LED fr own tb chs pu) := by
    intro q hq
    rcases List.mem_cons.mp hq with rfl | hq
    · refine ⟨by rw [Array.toArray_toList]; exact hS', Nat.ne_of_gt hL, ?_⟩
      cases e : h₀.get? s.heap.objs.size with
      | none => rfl
      | some o => exact absurd (Heap.lt_size (W.F.keep _ _ e)) (Nat.lt_irrefl _)
    · exact ⟨hk _ _ (W.N q hq).1, (W.N q hq).2⟩
  have W' := W.pure P.ok F' N' fs
  have sub : Sub pu ((s.heap.objs.size, PySem.W.listOf acc'.toList.toArray c') :: pu) := fun p hp => List.mem_cons_of_mem _ hp
  refine hQ _ ρ _ { s with heap := h', toks := tk } (Pre.refl _) sub (.lst (n := c') (List.mem_cons_self ..) ?_) ⟨m, mm, tb, chs, W'⟩ ⟨_, _, rfl⟩
  have key : ∀ (n : Nat) (a : Int) (l : List Value), l.length = n → (∀ (j : Nat) (v : Value), l[j]? = some v → ∃ t, v = Value.int (a + j * 1) t) → VRs G.R ρ ((s.heap.objs.size, PySem.W.listOf acc'.toList.toArray c') :: pu) (rngL n a) l := by
    intro n
    induction n with
    | zero => intro a l hl _; rw [List.length_eq_zero_iff] at hl; subst hl; exact .nil
    | succ n ih =>
      intro a l hl hv
      cases l with
      | nil => (first | exact Mine.ns hl | exact Mine.ft hl | exact Mine.sn hl | exact Mine.tf hl | cases hl)
      | cons v r =>
        obtain ⟨t, rfl⟩ := hv 0 v rfl
        refine .cons ?_ (ih (a + 1) r (by simpa using hl) fun j v hj => ?_)
        · simp; exact .int _ _
        · obtain ⟨t, e⟩ := hv (j + 1) v hj
          refine ⟨t, e.trans ?_⟩
          congr 1
          push_cast
          lia
  exact key _ _ _ (by rw [Array.length_toList]; exact hacc.1) fun j v hj => hacc.2 j v (by simpa using hj)
theorem b_tuple (P : ParOk G p) {hh : List MO} {l : List (Str × V)} {o : V} {x : Value} {l' : List V} {Q : Value → Shared → Prop} (hd : lstD hh o = some l') (hlen : l'.length < 10000) (I : Inv G.R Z env h₀ L fr own ⟨l, hh⟩ ρ pu s.heap) (hx : VR G.R ρ pu o x)
    (hQ : EP G.R Z env h₀ L fr own ⟨l, hh⟩ ρ pu s (.tup l') Q) : wpAny (model G.prog G.w) A (call (.type "tuple") [x]) Q noE s := by
  refine opq fun GG kk => ?_
  obtain ⟨a, vs, n, rfl, g, hr⟩ := I.lst hx hd
  have e1 := hr.length
  obtain ⟨m, mm, tb, chs, W⟩ := I
  refine kk ?_
  refine kde_tupleOf W.F W.N (items := vs.toArray) (zs := vs) ⟨_, g, rfl, n, rfl⟩ (by rw [List.size_toArray]; lia) (by simp) fun D h' F' N' hlt => ?_
  have fs : D ∉ (LED fr own tb chs pu).map (·.1) := fresh_lt hlt
  have W' := W.pure P.ok F' N' fs
  have sub : Sub pu ((D, ({ cls := .type "tuple", data := .seq vs.toArray } : Obj)) :: pu) := fun p hp => List.mem_cons_of_mem _ hp
  exact hQ _ ρ _ { s with heap := h' } (Pre.refl _) sub (.tup (n := 0) (List.mem_cons_self ..) (hr.mono (Pre.refl _) sub)) ⟨m, mm, tb, chs, W'⟩ ⟨_, s.toks, rfl⟩
set_option tactic.hygienic true in
theorem b_append {st : St} {k : Nat} {l' : List V} {dv : V} {x v : Value} {Q : Value → Shared → Prop} (hn : st.h[k]? = some (.lst l')) (hlen : l'.length < 10000) (I : Inv G.R Z env h₀ L fr own st ρ pu s.heap) (hx : VR G.R ρ pu (.loc k) x) (hv : VR G.R ρ pu dv v)
    (hQ : EP G.R Z env h₀ L fr own ⟨st.l, setAt st.h k (.lst (l' ++ [dv]))⟩ ρ pu s .none Q) : wpAny (model G.prog G.w) A (call (.builtin "list.append") [x, v]) Q noE s := by
  refine opq fun GG kk => ?_
  obtain ⟨m, mm, tb, chs, W⟩ := I
  obtain ⟨ad, c, e1, e2, e3, e4⟩ := W.ms.at hn
  obtain ⟨_, rfl, hr⟩ := hx.loc_inv; clear hx
  rw [e1] at hr
  (first | exact Mine.ns hr | exact Mine.ft hr | exact Mine.sn hr | exact Mine.tf hr | cases hr)
  obtain ⟨_, _, rfl, hvs⟩ := e3.lst_inv; clear e3
  rename_i vs n
  obtain ⟨pre, post, p1, p2⟩ := flat_set_all e2
  have hm : (ad, PySem.W.listOf vs.toArray n) ∈ LED fr own tb chs pu :=
    List.mem_append_right _ (List.mem_append_right _ (List.mem_append_right _ (List.mem_append_left _ (List.mem_flatten.mpr ⟨_, List.mem_of_getElem? e2, List.mem_singleton.mpr rfl⟩))))
  have ho := (W.N _ hm).1
  have hl := hvs.length
  refine kk ?_
  refine append_at (hsz := by rw [List.size_toArray, sizeLine_eq]; lia) ho fun h' hs ho' => ?_
  have ho2 : h'.get? ad = some (PySem.W.listOf (vs ++ [v]).toArray (n + 1)) := by rw [ho']; simp
  have eL : LED fr own tb chs pu = (fr ++ (own ++ (tb ++ pre))) ++ (ad, PySem.W.listOf vs.toArray n) :: (post ++ pu) := by
    unfold LED; rw [p1]; simp
  have eL' : LED fr own tb (chs.set k [(ad, PySem.W.listOf (vs ++ [v]).toArray (n + 1))]) pu = (fr ++ (own ++ (tb ++ pre))) ++ (ad, PySem.W.listOf (vs ++ [v]).toArray (n + 1)) :: (post ++ pu) := by
    unfold LED; rw [p2]; simp
  have N0 := W.N
  have nd0 := W.nd
  rw [eL] at N0 nd0
  obtain ⟨F', N', nd'⟩ := led_set W.F N0 nd0 hs ho2
  rw [← eL'] at N'
  have hset := e4 (.lst (l' ++ [dv])) [(ad, PySem.W.listOf (vs ++ [v]).toArray (n + 1))] (.lst (VRs.append hvs (.cons hv .nil)))
  exact hQ _ ρ pu { s with heap := h' } (Pre.refl _) (Sub.refl _) .none ⟨m, mm, tb, _, W.set (a := ad) hn e2 hset rfl F' N'⟩ ⟨h', s.toks, rfl⟩
set_option tactic.hygienic true in
theorem b_pop {st : St} {k : Nat} {l' : List V} {dv : V} {x : Value} {t : Tok} {Q : Value → Shared → Prop} (hn : st.h[k]? = some (.lst (dv :: l'))) (hlen : (dv :: l').length < 10000) (I : Inv G.R Z env h₀ L fr own st ρ pu s.heap) (hx : VR G.R ρ pu (.loc k) x)
    (hQ : EP G.R Z env h₀ L fr own ⟨st.l, setAt st.h k (.lst l')⟩ ρ pu s dv Q) : wpAny (model G.prog G.w) A (call (.builtin "list.pop") [x, .int 0 t]) Q noE s := by
  refine opq fun GG kk => ?_
  obtain ⟨m, mm, tb, chs, W⟩ := I
  obtain ⟨ad, c, e1, e2, e3, e4⟩ := W.ms.at hn
  obtain ⟨_, rfl, hr⟩ := hx.loc_inv; clear hx
  rw [e1] at hr
  (first | exact Mine.ns hr | exact Mine.ft hr | exact Mine.sn hr | exact Mine.tf hr | cases hr)
  obtain ⟨_, _, rfl, hvs⟩ := e3.lst_inv; clear e3
  rename_i vs n
  obtain ⟨_, _, rfl, hv0, hvr⟩ := hvs.cons_inv; clear hvs
  rename_i v0 vr
  obtain ⟨pre, post, p1, p2⟩ := flat_set_all e2
  have hl := hvr.length
  have eL : LED fr own tb chs pu = (fr ++ (own ++ (tb ++ pre))) ++ (ad, PySem.W.listOf (v0 :: vr).toArray n) :: (post ++ pu) := by
    unfold LED; rw [p1]; simp
  have eL' : LED fr own tb (chs.set k [(ad, PySem.W.listOf ([] ++ vr).toArray (n + 1))]) pu = (fr ++ (own ++ (tb ++ pre))) ++ (ad, PySem.W.listOf ([] ++ vr).toArray (n + 1)) :: (post ++ pu) := by
    unfold LED; rw [p2]; simp
  have N0 := W.N
  have nd0 := W.nd
  rw [eL] at N0 nd0
  refine kk ?_
  refine PySem.W.kl_popAt (p := []) (q := vr) (y := v0) (k := 0) W.F N0 (by decide +kernel) (by simp [seqIndex?]) (by rfl) (Upd.mid nd0) (by rw [sizeLine_eq]; simp only [List.length_cons] at hlen ⊢; lia) fun h' F' N' => ?_
  rw [← eL'] at N'
  have hset := e4 (.lst l') [(ad, PySem.W.listOf ([] ++ vr).toArray (n + 1))] (.lst hvr)
  exact hQ _ ρ pu { s with heap := h' } (Pre.refl _) (Sub.refl _) hv0 ⟨m, mm, tb, _, W.set (a := ad) hn e2 hset rfl F' N'⟩ ⟨h', s.toks, rfl⟩
/-! ## places -/
theorem allStrs_are {R : Rc} {l : List V} : ∀ {ss : List Str} {vs : List Value}, allStrs l = some ss → VRs R ρ pu l vs → StrsAre vs ss ∧ ss.length = l.length := by
  induction l with
  | nil => intro is vs e h; obtain rfl := Option.some.inj e; obtain rfl := h.nil_inv; exact ⟨.nil, rfl⟩
  | cons d r ih =>
    intro is vs e h
    obtain ⟨i, h1, e⟩ := bind2 e
    obtain ⟨l, h2, e⟩ := bind2 e
    obtain rfl := Option.some.inj e
    obtain ⟨_, _, rfl, hd, hr⟩ := h.cons_inv
    obtain ⟨_, rfl⟩ := (strO_iff h1 ▸ hd : VR R ρ pu (.str i) _).str_inv
    obtain ⟨a, b⟩ := ih h2 hr
    exact ⟨.cons _ _ a, congrArg Nat.succ b⟩
theorem idxS_spec (x : Str) : ∀ (n : Nat) (l : List Str) (i : Nat), idxS x n l = some i → ∃ j, i = n + j ∧ l[j]? = some x ∧ ∀ k, k < j → ∀ y, l[k]? = some y → y ≠ x
  | _, [], _, e => by (first | exact Mine.ns e | exact Mine.ft e | exact Mine.sn e | exact Mine.tf e | cases e)
  | n, b :: r, i, e => by
    unfold idxS at e
    (first | (revert e; refine mb (fun _ e => ?_) (fun _ e => ?_)) | split at e)
    · rename_i h
      (first | exact Mine.ns e | exact Mine.ft e | exact Mine.sn e | exact Mine.tf e | cases e)
      exact ⟨0, rfl, by rw [(seq_iff _ _).mp h]; rfl, fun k hk => absurd hk (Nat.not_lt_zero _)⟩
    · rename_i h
      obtain ⟨j, h1, h2, h3⟩ := idxS_spec x (n + 1) r i e
      refine ⟨j + 1, by lia, h2, fun k hk y hy => ?_⟩
      cases k with
      | zero => (first | exact Mine.ns hy | exact Mine.ft hy | exact Mine.sn hy | exact Mine.tf hy | cases hy); exact (seq_false _ _).mp h
      | succ k => exact h3 k (by lia) y hy
theorem strsAre_get : ∀ {vs : List Value} {ss : List Str}, StrsAre vs ss → ∀ (i : Nat) {v : Value}, vs[i]? = some v → ∃ y t, ss[i]? = some y ∧ v = .str y t
  | _, _, .nil, i, v, e => by simp at e
  | _, _, .cons y t h, 0, v, e => by (first | exact Mine.ns e | exact Mine.ft e | exact Mine.sn e | exact Mine.tf e | cases e); exact ⟨y, t, rfl, rfl⟩
  | _, _, .cons y t h, i + 1, v, e => strsAre_get h i e
theorem strsAre_len : ∀ {vs : List Value} {ss : List Str}, StrsAre vs ss → vs.length = ss.length
  | _, _, .nil => rfl
  | _, _, .cons _ _ h => by simp [strsAre_len h]
theorem b_index {hh : List MO} {l : List (Str × V)} {o : V} {x : Value} {l' : List V} {ss : List Str} {y : Str} {t : Tok} {i : Nat} {Q : Value → Shared → Prop} (hd : lstD hh o = some l') (hi : allStrs l' = some ss) (hlen : l'.length < 10000) (hix : idxS y 0 ss = some i) (I : Inv G.R Z env h₀ L fr own ⟨l, hh⟩ ρ pu s.heap) (hx : VR G.R ρ pu o x)
    (hQ : EP G.R Z env h₀ L fr own ⟨l, hh⟩ ρ pu s (.int i) Q) : wpAny (model G.prog G.w) A (call (.builtin "list.index") [x, .str y t]) Q noE s := by
  refine opq fun GG kk => ?_
  obtain ⟨a, vs, n, rfl, g, hr⟩ := I.lst hx hd
  obtain ⟨h1, h2⟩ := allStrs_are hi hr
  obtain ⟨j, e1, e2, e3⟩ := idxS_spec y 0 ss i hix
  have e1 : i = j := by lia
  subst e1
  have hl := strsAre_len h1
  have hj : i < vs.length := by rw [hl]; exact (List.getElem?_eq_some_iff.mp e2).1
  refine kk ?_
  refine call_meets PySem.F.slot_list_index ⟨_, g, rfl⟩ PySem.F.entry_list_index (PySem.F.args_list_index_2 _ _)
    (MeetsSeq.list_index a vs.toArray n (.str y t) (isStrOf y) (fun z hz => eq_isStrOf y t h1 z (by simpa using hz)) i (by simpa using hj) (by lia) ?_ ?_) ⟨g, hQ.here (.int _ _) I⟩
  · obtain ⟨z, u, h4, h5⟩ := strsAre_get h1 i (List.getElem?_eq_getElem hj)
    rw [e2] at h4
    (first | exact Mine.ns h4 | exact Mine.ft h4 | exact Mine.sn h4 | exact Mine.tf h4 | cases h4)
    rw [List.getElem_toArray, h5]
    simp [isStrOf]
  · intro k hk hkj
    rw [List.size_toArray] at hk
    obtain ⟨z, u, h4, h5⟩ := strsAre_get h1 k (List.getElem?_eq_getElem hk)
    rw [List.getElem_toArray, h5]
    simp only [isStrOf, beq_eq_false_iff_ne]
    exact e3 k hkj z h4
theorem strs_VRs {R : Rc} : ∀ {ss : List Str} {vs : List Value}, StrsAre vs ss → VRs R ρ pu (ss.map .str) vs
  | [], _, h => by (first | exact Mine.ns h | exact Mine.ft h | exact Mine.sn h | exact Mine.tf h | cases h); exact .nil
  | i :: r, _, h => by cases h with | cons _ _ h => exact .cons (.str _ _) (strs_VRs h)
noncomputable def splitOk (q : Str × List Str) : Bool := (q.1.length + 2 ≤ 100) && (Txt.split q.1 " " == q.2)
theorem splitT_ok : splitT.all splitOk = true := by decide +kernel
theorem b_split (P : ParOk G p) {x : Str} {ws : List Str} {t u : Tok} {Q : Value → Shared → Prop} (e : slook x splitT = some ws) (I : Inv G.R Z env h₀ L fr own st ρ pu s.heap)
    (hQ : EP G.R Z env h₀ L fr own st ρ pu s (.lst (ws.map .str)) Q) : wpAny (model G.prog G.w) A (call (.builtin "str.split") [.str x t, .str " " u]) Q noE s := by
  rw [slook_eq] at e
  have hm := List.all_eq_true.mp splitT_ok _ (lookup_memL e)
  unfold splitOk at hm
  replace hm := and2 hm
  have h1 : x.length + 2 ≤ 100 := by simpa using hm.1
  have h2 : Txt.split x " " = ws := by simpa using hm.2
  obtain ⟨m, mm, tb, chs, W⟩ := I
  refine KSpl.split1 W.F W.N rfl (fun D l h' k e hS F' N' hlt => ?_) (by rw [sizeLine_eq]; lia)
  rw [e, h2] at hS
  have fs : D ∉ (LED fr own tb chs pu).map (·.1) := fresh_lt hlt
  have W' := W.pure P.ok F' N' fs
  have sub : Sub pu ((D, PySem.W.listOf (strValues l).toArray 0) :: pu) := fun p hp => List.mem_cons_of_mem _ hp
  exact hQ _ ρ _ { s with heap := h', toks := k } (Pre.refl _) sub (.lst (n := 0) (List.mem_cons_self ..) (strs_VRs hS)) ⟨m, mm, tb, chs, W'⟩ ⟨_, _, rfl⟩
theorem b_strIndex {x y : Str} {t u : Tok} {i : Nat} {Q : Value → Shared → Prop} (e : subIdx y.cps.toList 0 x.cps.toList = some i) (I : Inv G.R Z env h₀ L fr own st ρ pu s.heap)
    (hQ : EP G.R Z env h₀ L fr own st ρ pu s (.int i) Q) : wpAny (model G.prog G.w) A (call (.builtin "str.index") [.str x t, .str y u]) Q noE s := by
  refine SC.index (i := i) (rest := []) ?_ (hQ.here (.int _ _) I)
  rw [occ1, e]; rfl
end
end Mine

end
section -- P7
namespace Mine
open PySem PySem.W PySem.Calls PyProof.Rows

theorem simple_inv {a : Arguments} (h : simpleArgs a = true) : (∃ x, a = ⟨[], [x], none, [], [], none, []⟩) ∨ (∃ x y, a = ⟨[], [x, y], none, [], [], none, []⟩) := by
  have h1 := List.isEmpty_iff.mp (and2 (and2 (and2 h).1).1).1
  have h2 := Option.isNone_iff_eq_none.mp (and2 (and2 (and2 h).1).1).2
  have h3 := List.isEmpty_iff.mp (and2 (and2 (and2 h).1).2).1
  have h4 := List.isEmpty_iff.mp (and2 (and2 (and2 h).1).2).2
  have h5 := Option.isNone_iff_eq_none.mp (and2 (and2 (and2 h).2).1).1
  have h6 := List.isEmpty_iff.mp (and2 (and2 (and2 h).2).1).2
  have h7 := (and2 (and2 h).2).2
  clear h
  obtain ⟨po, l, va, ko, kd, kw, df⟩ := a
  have h1 : po = [] := h1
  have h2 : va = none := h2
  have h3 : ko = [] := h3
  have h4 : kd = [] := h4
  have h5 : kw = none := h5
  have h6 : df = [] := h6
  have h7 : oneTwo l = true := h7
  rw [h1, h2, h3, h4, h5, h6]
  clear h1 h2 h3 h4 h5 h6
  cases l with
  | nil => exact ft h7
  | cons x r =>
    cases r with
    | nil => exact .inl ⟨x, rfl⟩
    | cons y q =>
      cases q with
      | nil => exact .inr ⟨x, y, rfl⟩
      | cons _ _ => exact ft h7
theorem simple_dflt {a : Arguments} (h : simpleArgs a = true) (env : Env) : defaultsOf a env = ([], []) := by
  rcases simple_inv h with ⟨a, rfl⟩ | ⟨a, b, rfl⟩ <;> rfl

/-- the code tables of the defs with lambdas -/
noncomputable def tbD (lamT : List (Addr × Addr × Str)) (tb pu : Led) : Prop := ∀ e ∈ lamT, ∃ ps : Array Value, (e.2.1, tabObj ps) ∈ tb ∧ TriplesOk ps.toList ∧
  ∀ pos cv, codeAmong pos ps.toList = some cv → ∃ c' oc fvs t, cv = .ref c' ∧ (c', oc) ∈ pu ∧ (oc : Obj).data = .fields fvs ∧ fvs[1]? = some (.str ((e.2.2 ++ ".<locals>.") ++ "<lambda>") t)
structure LamT (G : Glb) : Prop where
  tb : G.R.TB = tbD G.lamT
  hd : ∀ e ∈ G.lamT, ∀ h, G.R.K.In h → CodeHd h e.1 e.2.1
  nd : (G.lamT.map (·.2.1)).Nodup
theorem tbD_mono {lamT : List (Addr × Addr × Str)} {tb pu pu' : Led} (h : Sub pu pu') (T : tbD lamT tb pu) : tbD lamT tb pu' := by
  intro e he
  obtain ⟨ps, a, b, c⟩ := T e he
  refine ⟨ps, a, b, fun pos cv hc => ?_⟩
  obtain ⟨c', oc, fvs, t, e1, e2, e3⟩ := c pos cv hc
  exact ⟨c', oc, fvs, t, e1, h _ e2, e3⟩
theorem codeAmong_app {pos : Pos} {l k : List Value} {cv : Value} (h : TriplesOk l) (e : codeAmong pos (l ++ k) = some cv) : codeAmong pos l = some cv ∨ codeAmong pos k = some cv := by
  fun_induction TriplesOk l with
  | case1 => exact .inr (by simpa using e)
  | case2 a t b u c rest ih =>
    simp only [List.cons_append] at e
    have e1 : ∀ r, codeAmong pos (.int a t :: .int b u :: c :: r) = if a == pos.line && b == pos.col then some c else codeAmong pos r := fun _ => rfl
    rw [e1] at e
    rw [e1]
    split
    · rename_i hc
      rw [if_pos hc] at e
      exact .inl e
    · rename_i hc
      rw [if_neg hc] at e
      exact ih h e
  | case3 => exact h.elim
theorem triples_app {l k : List Value} (h : TriplesOk l) (hk : TriplesOk k) : TriplesOk (l ++ k) := by
  fun_induction TriplesOk l with
  | case1 => simpa using hk
  | case2 a t b u c rest ih =>
    simp only [List.cons_append]
    unfold TriplesOk
    exact ih h
  | case3 => exact h.elim
theorem UpdF.mid {d : Addr} {o : Obj} : ∀ {pre post : Led}, (((pre ++ (d, o) :: post)).map (·.1)).Nodup → UpdF d o (pre ++ (d, o) :: post) (fun o' => pre ++ (d, o') :: post)
  | [], post, h => .head fun q hq e => by
    rw [List.nil_append, List.map_cons, List.nodup_cons] at h
    exact h.1 (List.mem_map.mpr ⟨q, hq, e⟩)
  | q :: pre, post, h => by
    rw [List.cons_append, List.map_cons, List.nodup_cons] at h
    refine .tail (fun e => h.1 ?_) (UpdF.mid h.2)
    rw [e]
    exact List.mem_map_of_mem (List.mem_append_right _ (List.mem_cons_self ..))
section
variable {Z : ZP} {G : Glb} {p : Par} {A : Around} {sc : Scope} {fenv env : Env} {h₀ : Heap} {L : Addr} {d : Nat} {fr own : Led} {st st' : St} {ρ ρ' : List Addr} {pu pu' : Led} {s : Shared} {ih : Ev}

theorem clos_noFree : ∀ {l : List (Str × NameKind)} {cs cl : List (Str × Addr)}, l.any (fun q => match q.2 with | .free => true | _ => false) = false → clos env l cs = some cl → cl = cs
  | [], cs, cl, _, h => by (first | exact Mine.ns h | exact Mine.ft h | exact Mine.sn h | exact Mine.tf h | cases h); rfl
  | (n, k) :: r, cs, cl, hf, h => by
    rw [List.any_cons, Bool.or_eq_false_iff] at hf
    unfold clos at h
    have hk : (k == NameKind.free) = false := by
      (first | exact Mine.ns k | exact Mine.ft k | exact Mine.sn k | exact Mine.tf k | cases k) <;> first | rfl | (exact absurd hf.1 (by simp))
    rw [hk] at h
    exact clos_noFree hf.2 h
theorem lam_vr {R : Rc} {pu : Led} {f c' : Addr} {oc : Obj} {fvs : Array Value} {tq : Tok} {qual : Str} {a : Arguments} {b : Expr} {lsc : Scope} {cl : List (Str × Addr)} {pm ctv : Value} (hs : simpleArgs a = true) (hcl : clos env lsc.names [] = some cl)
    (h1 : (f, kla_obj "<lambda>" qual a b lsc cl pm c' ctv) ∈ pu) (h2 : (c', oc) ∈ pu) (h3 : oc.data = .fields fvs) (h4 : fvs[1]? = some (.str qual tq)) :
    VR R ρ pu (match hasFree lsc with | true => .any | false => .clo (argNames a) b lsc) (.ref f) := by
  cases hf : hasFree lsc with
  | true => exact .any rfl
  | false =>
    have := clos_noFree hf hcl
    subst this
    exact .clo h1 h2 h3 h4 rfl hs
theorem lam_ok (P : ParOk G p) (T : LamT G) : LamOk G := by
  intro sc a b lsc pos hchk A fenv env h₀ L d Fm Z fr own st ρ pu s Q I hQ
  replace hchk := and3 hchk
  obtain ⟨⟨hlm, hsim⟩, hfree⟩ := hchk
  obtain ⟨e, he, cs, af, ecl, rfl⟩ := Fm.fe hlm
  obtain ⟨m, mm, tb, chs, W⟩ := I
  have hT := W.tb
  rw [T.tb] at hT
  obtain ⟨ps, hmem, htr, hco⟩ := hT e he
  obtain ⟨cl, hcl⟩ : ∃ cl, clos (envX e.2.2 cs L af (.ref e.1) ecl) lsc.names [] = some cl := clos_some fun q hq hf => by
    have := List.all_eq_true.mp hfree q hq
    rw [hf] at this
    simp only [] at this
    rw [slook_eq] at this
    have hc : sc.names.lookup q.1 = some .cell := by
      revert this
      split
      · rename_i h; exact fun _ => h
      · exact fun h => absurd h Bool.false_ne_true
    exact Fm.cls _ (Fm.clo _ (.inl hc))
  have hclp := clos_pure hcl
  have C := T.hd e he h₀ Fm.kin
  have hdef : defaultsOf a (envX e.2.2 cs L af (.ref e.1) ecl) = ([], []) := simple_dflt hsim _
  refine kla_eval hdef ?_
  cases hca : codeAmong pos ps.toList with
  | some cv =>
    obtain ⟨c', oc, fvs, t, rfl, h1, h2, h3⟩ := hco pos cv hca
    refine kla_hit W.F W.N Fm.top C rfl (ps := ps) ?_ htr hca hclp fun f ctv h' tk F' N' hlt => ?_
    · exact List.mem_append_right _ (List.mem_append_right _ (List.mem_append_left _ hmem))
    · have fs : f ∉ (LED fr own tb chs pu).map (·.1) := fresh_lt hlt
      have W' := W.pure P.ok F' N' fs
      have sub : Sub pu ((f, kla_obj "<lambda>" ((e.2.2 ++ ".<locals>.") ++ "<lambda>") a b lsc cl ((G.mg "__name__").getD .none) c' ctv) :: pu) := fun p hp => List.mem_cons_of_mem _ hp
      exact hQ _ ρ _ { s with heap := h', toks := tk } (Pre.refl _) sub (lam_vr hsim hcl (List.mem_cons_self ..) (sub _ h1) h2 h3) ⟨m, mm, tb, chs, W'⟩ ⟨_, _, rfl⟩
  | none =>
    obtain ⟨tb1, tb2, rfl⟩ := List.append_of_mem hmem
    have eL : ∀ o, LED fr own (tb1 ++ (e.2.1, o) :: tb2) chs pu = (fr ++ (own ++ tb1)) ++ (e.2.1, o) :: (tb2 ++ (chs.flatten ++ pu)) := by
      intro o; unfold LED; simp
    have N0 := W.N
    have nd0 := W.nd
    rw [eL] at N0 nd0
    refine kla_nest W.F N0 Fm.top C rfl (UpdF.mid nd0) htr hca hclp fun f c' oc vs t ctv h' tk F' N' hd hv hlt hlt2 => ?_
    dsimp only at N'
    rw [← eL] at N' hlt
    have hN : ∀ o', ((LED fr own (tb1 ++ (e.2.1, o') :: tb2) chs pu).map (·.1)) = ((LED fr own (tb1 ++ (e.2.1, tabObj ps) :: tb2) chs pu).map (·.1)) := by
      intro o'; rw [eL, eL]; simp
    have sub : Sub pu ((f, kla_obj "<lambda>" ((e.2.2 ++ ".<locals>.") ++ "<lambda>") a b lsc cl ((G.mg "__name__").getD .none) c' ctv) :: (c', oc) :: pu) := fun q hq => List.mem_cons_of_mem _ (List.mem_cons_of_mem _ hq)
    have pm : List.Perm (LED fr own (tb1 ++ (e.2.1, tabObj (ps ++ #[rawInt pos.line, rawInt pos.col, .ref c'])) :: tb2) chs ((f, kla_obj "<lambda>" ((e.2.2 ++ ".<locals>.") ++ "<lambda>") a b lsc cl ((G.mg "__name__").getD .none) c' ctv) :: (c', oc) :: pu))
        ((f, kla_obj "<lambda>" ((e.2.2 ++ ".<locals>.") ++ "<lambda>") a b lsc cl ((G.mg "__name__").getD .none) c' ctv) :: (c', oc) :: LED fr own (tb1 ++ (e.2.1, tabObj (ps ++ #[rawInt pos.line, rawInt pos.col, .ref c'])) :: tb2) chs pu) := by
      have e1 : ∀ (x y : Addr × Obj) (tb : Led), LED fr own tb chs (x :: y :: pu) = (fr ++ (own ++ (tb ++ chs.flatten))) ++ ([x, y] ++ pu) := by intro x y tb; unfold LED; simp
      have e2 : ∀ (x y : Addr × Obj) (tb : Led), x :: y :: LED fr own tb chs pu = ([x, y] ++ (fr ++ (own ++ (tb ++ chs.flatten)))) ++ pu := by intro x y tb; unfold LED; simp
      rw [e1, e2, ← List.append_assoc]
      exact List.Perm.append_right _ List.perm_append_comm
    refine hQ _ ρ _ { s with heap := h', toks := tk } (Pre.refl _) sub (lam_vr hsim hcl (List.mem_cons_self ..) (List.mem_cons_of_mem _ (List.mem_cons_self ..)) hd hv) ⟨m, mm, _, chs, F', W.z, fun q hq => N' q (pm.mem_iff.mp hq), ?_, ?_, W.nm.mono (Pre.refl _) sub, W.ms.mono P.ok (Pre.refl _) sub, ?_⟩ ⟨_, _, rfl⟩
    · rw [(pm.map (·.1)).nodup_iff, List.map_cons, List.map_cons, hN, List.nodup_cons, List.nodup_cons]
      refine ⟨?_, fresh_lt hlt, W.nd⟩
      rw [List.mem_cons]
      rintro (h | h)
      · exact absurd h (Nat.ne_of_gt hlt2)
      · exact fresh_lt (fun q hq => Nat.lt_trans (hlt q hq) hlt2) h
    · rcases W.ns with e | ⟨oC, hm, hn⟩
      · exact .inl e
      · exact .inr ⟨oC, hm, hn⟩
    · rw [T.tb]
      intro e₂ he₂
      have hT2 := W.tb
      rw [T.tb] at hT2
      obtain ⟨ps₂, m2, t2, c2⟩ := hT2 e₂ he₂
      by_cases hP : e₂.2.1 = e.2.1
      · have hee : e₂ = e := by
          have hnd := T.nd
          obtain ⟨i, hi, rfl⟩ := List.mem_iff_getElem.mp he₂
          obtain ⟨j, hj, rfl⟩ := List.mem_iff_getElem.mp he
          have : i = j := by
            rw [List.Nodup, List.pairwise_iff_getElem] at hnd
            rcases Nat.lt_trichotomy i j with h | h | h
            · exact absurd (by rw [List.getElem_map, List.getElem_map]; exact hP) (hnd i j (by simpa using hi) (by simpa using hj) h)
            · exact h
            · exact absurd (by rw [List.getElem_map, List.getElem_map]; exact hP.symm) (hnd j i (by simpa using hj) (by simpa using hi) h)
          subst this; rfl
        subst hee
        refine ⟨_, List.mem_append_right _ (List.mem_cons_self ..), ?_, fun pos' cv hc => ?_⟩
        · rw [Array.toList_append]
          exact triples_app htr trivial
        · rw [Array.toList_append] at hc
          rcases codeAmong_app htr hc with hc | hc
          · obtain ⟨c₃, oc₃, fvs₃, t₃, a1, a2, a3⟩ := hco pos' cv hc
            exact ⟨c₃, oc₃, fvs₃, t₃, a1, sub _ a2, a3⟩
          · have : cv = .ref c' := by
              have hc : codeAmong pos' [rawInt pos.line, rawInt pos.col, .ref c'] = some cv := hc
              unfold rawInt codeAmong at hc
              (first | (revert hc; refine mb (fun _ hc => ?_) (fun _ hc => ?_)) | split at hc)
              · (first | exact Mine.ns hc | exact Mine.ft hc | exact Mine.sn hc | exact Mine.tf hc | cases hc); rfl
              · (first | exact Mine.ns hc | exact Mine.ft hc | exact Mine.sn hc | exact Mine.tf hc | cases hc)
            subst this
            exact ⟨c', oc, vs, t, rfl, List.mem_cons_of_mem _ (List.mem_cons_self ..), hd, hv⟩
      · refine ⟨ps₂, ?_, t2, fun pos' cv hc => ?_⟩
        · rcases List.mem_append.mp m2 with h | h
          · exact List.mem_append_left _ h
          · rcases List.mem_cons.mp h with h | h
            · exact absurd (Prod.mk.inj h).1 hP
            · exact List.mem_append_right _ (List.mem_cons_of_mem _ h)
        · obtain ⟨c₃, oc₃, fvs₃, t₃, a1, a2, a3⟩ := c2 pos' cv hc
          exact ⟨c₃, oc₃, fvs₃, t₃, a1, sub _ a2, a3⟩
end
end Mine

end
section -- P8
namespace Mine
open PySem PySem.W PySem.Calls PyProof.Rows

theorem fm_congr {α β : Type} {f g : α → Option β} : ∀ {l : List α}, (∀ n ∈ l, f n = g n) → l.filterMap f = l.filterMap g
  | [], _ => rfl
  | a :: r, h => by
    rw [List.filterMap_cons, List.filterMap_cons, h a (List.mem_cons_self ..), fm_congr fun n hn => h n (List.mem_cons_of_mem _ hn)]
theorem zip_take {α β : Type} : ∀ (l : List α) (ws : List β), l.zip ws = (l.take ws.length).zip ws
  | [], ws => by simp
  | a :: r, [] => by simp
  | a :: r, w :: ws => by rw [List.length_cons, List.take_succ_cons, List.zip_cons_cons, List.zip_cons_cons, zip_take r ws]
theorem zipL' (names : List Str) : ∀ {ws : List Value}, names.Nodup → ws.length = names.length → names.filterMap (fun n => ((names.zip ws).lookup n).map (n, ·)) = names.zip ws := by
  induction names with
  | nil => intro ws _ _; rfl
  | cons a r ih =>
    intro ws nd hl
    cases ws with
    | nil => (first | exact Mine.ns hl | exact Mine.ft hl | exact Mine.sn hl | exact Mine.tf hl | cases hl)
    | cons w ws =>
      rw [List.nodup_cons] at nd
      have h1 : ((a :: r).zip (w :: ws)).lookup a = some w := by simp [List.lookup]
      rw [List.filterMap_cons, h1]
      simp only [Option.map_some, List.zip_cons_cons]
      congr 1
      refine Eq.trans ?_ (ih nd.2 (by simpa using hl))
      refine fm_congr fun n hn => ?_
      have : (n == a) = false := by rw [beq_eq_false_iff_ne]; rintro rfl; exact nd.1 hn
      rw [List.lookup_cons, this]
theorem lookup_zip_none {names : List Str} {n : Str} : ∀ {ws : List Value}, n ∉ names → (names.zip ws).lookup n = none := by
  induction names with
  | nil => intro ws _; rfl
  | cons a r ih =>
    intro ws h
    cases ws with
    | nil => rfl
    | cons w ws =>
      have : (n == a) = false := by rw [beq_eq_false_iff_ne]; rintro rfl; exact h (List.mem_cons_self ..)
      rw [List.zip_cons_cons, List.lookup_cons, this]
      exact ih fun q => h (List.mem_cons_of_mem _ q)
theorem lookup_zip_some {names : List Str} {n : Str} : ∀ {ws : List Value}, n ∈ names.take ws.length → ((names.zip ws).lookup n).isSome = true := by
  induction names with
  | nil => intro ws h; simp at h
  | cons a r ih =>
    intro ws h
    cases ws with
    | nil => simp at h
    | cons w ws =>
      rw [List.zip_cons_cons, List.lookup_cons]
      cases hq : n == a with
      | true => rfl
      | false =>
        simp only []
        rw [List.length_cons, List.take_succ_cons] at h
        rcases List.mem_cons.mp h with rfl | h
        · simp at hq
        · exact ih h
/-- the defaults' loop -/
noncomputable abbrev dstep (slots : List (Str × Value)) (q : Str × Value) : List (Str × Value) := if (slots.lookup q.1).isNone = true then slots ++ [q] else slots
theorem dloop (names : List Str) (nd : names.Nodup) : ∀ (k : Nat) (ds : List Value) (ws : List Value), k + ds.length = names.length → ws.length ≤ names.length → k ≤ ws.length →
    ((names.drop k).zip ds).foldl dstep (names.zip ws) = names.zip (ws ++ ds.drop (ws.length - k)) := by
  intro k ds
  induction ds generalizing k with
  | nil =>
    intro ws h1 h2 h3
    simp
  | cons d ds ih =>
    intro ws h1 h2 h3
    have hk : k < names.length := by simp only [List.length_cons] at h1; lia
    rw [List.drop_eq_getElem_cons hk, List.zip_cons_cons, List.foldl_cons]
    by_cases hlt : k < ws.length
    · -- given already
      have hs : ((names.zip ws).lookup names[k]).isSome = true := lookup_zip_some (by
        rw [List.mem_take_iff_getElem]
        exact ⟨k, by lia, rfl⟩)
      have : dstep (names.zip ws) (names[k], d) = names.zip ws := by
        unfold dstep
        rw [if_neg]
        simp only [Option.isNone_iff_eq_none]
        intro q; simp only [q] at hs; (first | exact Mine.ns hs | exact Mine.ft hs | exact Mine.sn hs | exact Mine.tf hs | cases hs)
      rw [this, ih (k + 1) ws (by simp only [List.length_cons] at h1; lia) h2 hlt]
      congr 2
      rw [show ws.length - k = (ws.length - (k + 1)) + 1 by lia, List.drop_succ_cons]
    · have hk2 : k = ws.length := by lia
      subst hk2
      have hnone : (names.zip ws).lookup names[ws.length] = none := by
        have e : names.zip ws = (names.take ws.length).zip ws := zip_take _ _
        rw [e]
        refine lookup_zip_none fun hm => ?_
        rw [List.mem_take_iff_getElem] at hm
        obtain ⟨i, hi, e⟩ := hm
        have := (List.nodup_iff_pairwise_ne.mp nd)
        rw [List.pairwise_iff_getElem] at this
        exact this i ws.length (by lia) hk (by lia) e
      have hst : dstep (names.zip ws) (names[ws.length], d) = names.zip (ws ++ [d]) := by
        unfold dstep
        rw [if_pos (by simp only [hnone]; rfl)]
        have e : names = names.take ws.length ++ names[ws.length] :: names.drop (ws.length + 1) := by
          rw [← List.drop_eq_getElem_cons hk, List.take_append_drop]
        conv => rhs; rw [e]
        rw [List.zip_append (by rw [List.length_take]; lia), ← zip_take, List.zip_cons_cons, List.zip_nil_right]
      rw [hst, ih (ws.length + 1) (ws ++ [d]) (by simp only [List.length_cons] at h1; lia) (by simp; lia) (by simp)]
      simp
theorem seqItems_none : seqItems? .none = pure none := rfl
theorem len2 {α : Type} {l : List α} (h : l.length = 2) : ∃ a b, l = [a, b] := by
  cases l with
  | nil => exact nomatch h
  | cons a r => obtain ⟨b, rfl⟩ := List.length_eq_one_iff.mp (Nat.succ.inj h); exact ⟨a, b, rfl⟩
theorem miss_none {names : List Str} {vals : List Value} {n : Nat} (h2 : names.length ≤ vals.length + n) : (names.take (names.length - n)).filter (fun x => ((names.zip vals).lookup x).isNone) = [] := by
  rw [List.filter_eq_nil_iff]
  intro x hx
  have hm : x ∈ names.take vals.length := List.take_subset_take_left names (Nat.sub_le_iff_le_add.mpr h2) hx
  rw [← Option.not_isSome, lookup_zip_some hm]
  exact Bool.false_ne_true
theorem tail_len {a b c : Nat} (h1 : a ≤ b) (h2 : b ≤ a + c) : a + (c - (c - (b - a))) = b := by lia
theorem bind_loop {names : List Str} {vals ds : List Value} {k : List (Str × Value) → Sem (List (Str × Value))} (nd : names.Nodup) (h1 : vals.length ≤ names.length) (h2 : names.length ≤ vals.length + ds.length) (h3 : ds.length ≤ names.length) :
    (forIn ((names.drop (names.length - (ds.drop (ds.length - names.length)).length)).zip (ds.drop (ds.length - names.length))) (names.zip vals) (fun x s => if (s.lookup x.1).isNone = true then pure (ForInStep.yield (s ++ [(x.1, x.2)])) else pure (ForInStep.yield s)) >>= k : Sem (List (Str × Value))) = k (names.zip (vals ++ ds.drop (ds.length - (names.length - vals.length)))) := by
  rw [Nat.sub_eq_zero_of_le h3, List.drop_zero]
  have e4 : (fun (x : Str × Value) (r : List (Str × Value)) => (if (List.lookup x.1 r).isNone = true then pure (ForInStep.yield (r ++ [(x.1, x.2)])) else pure (ForInStep.yield r) : Sem (ForInStep (List (Str × Value))))) = fun x r => pure (ForInStep.yield (dstep r x)) := by
    funext x r
    unfold dstep
    split <;> rfl
  rw [e4, List.forIn_pure_yield_eq_foldl, dloop names nd (names.length - ds.length) ds vals (Nat.sub_add_cancel h3) h1 (Nat.sub_le_iff_le_add.mpr h2), pure_bind, show vals.length - (names.length - ds.length) = ds.length - (names.length - vals.length) by lia]
/-- what is bound, where nothing is amiss -/
theorem bind_pure {fd : FuncData} {as : List Arg} {kwd : List (Option Expr)} {dfs : List Expr} {vals : List Value} (hp : fd.params = ⟨[], as, none, [], kwd, none, dfs⟩) (nd : (as.map (·.arg)).Nodup) (h1 : vals.length ≤ as.length) : ∃ K : Option (Array Value) → Sem (List (Str × Value)),
    bindArgs fd ⟨vals, []⟩ = seqItems? fd.defaults >>= K ∧ ∀ (it : Option (Array Value)) (ds : List Value), (it.getD #[]).toList = ds → as.length ≤ vals.length + ds.length → ds.length ≤ as.length → K it = pure ((as.map (·.arg)).zip (vals ++ ds.drop (ds.length - (as.length - vals.length)))) := by
  obtain ⟨name, qual, params, bd, sc, gl, cl, dV, kV, doc, pm, an, cd, ct, bl⟩ := fd
  obtain rfl : params = _ := hp
  refine ⟨_, rfl, fun it ds hd h2 h3 => ?_⟩
  subst hd
  have hlen : (as.map (·.arg)).length = as.length := List.length_map ..
  rw [← hlen] at h1 h2 h3 ⊢
  refine (if_neg ?_).trans ((if_neg ?_).trans ((bind_loop nd h1 h2 h3).trans (congrArg (pure : List (Str × Value) → Sem (List (Str × Value))) ((congrArg (List.filterMap _) (List.append_nil (as.map (·.arg)))).trans (zipL' (as.map (·.arg)) (ws := vals ++ (it.getD #[]).toList.drop ((it.getD #[]).toList.length - ((as.map (·.arg)).length - vals.length))) nd (by rw [List.length_append, List.length_drop]; exact tail_len h1 h2))))))
  · show ¬ ((decide (vals.length > (as.map (·.arg)).length) && (none : Option Arg).isNone) = true)
    rw [decide_eq_false (Nat.not_lt.mpr h1)]; exact Bool.false_ne_true
  · show ¬ ((!((((as.map (·.arg)).take ((as.map (·.arg)).length - ((it.getD #[]).toList.drop ((it.getD #[]).toList.length - (as.map (·.arg)).length)).length)).filter fun n => (((as.map (·.arg)).zip vals).lookup n).isNone).isEmpty)) = true)
    rw [Nat.sub_eq_zero_of_le h3, List.drop_zero, miss_none h2]; exact fun h => ft h
theorem bind_simple {name qual : Str} {params : Arguments} {body : Expr} {scope : Scope} {cl : List (Str × Addr)} {pm cdv ct : Value} {vals : List Value} (h : simpleArgs params = true) (hne : ∀ a b, argNames params = [a, b] → a ≠ b) (hl : (argNames params).length = vals.length) :
    bindArgs (kla_fn name qual params body scope cl pm cdv ct) ⟨vals, []⟩ = pure ((argNames params).zip vals) := by
  have key : ∀ {as : List Arg}, params = ⟨[], as, none, [], [], none, []⟩ → (as.map (·.arg)).Nodup → bindArgs (kla_fn name qual params body scope cl pm cdv ct) ⟨vals, []⟩ = pure ((argNames params).zip vals) := by
    intro as e nd
    have hl : as.length = vals.length := by rw [← hl, e]; exact (List.length_map ..).symm
    obtain ⟨K, e1, e2⟩ := bind_pure (fd := kla_fn name qual params body scope cl pm cdv ct) (vals := vals) e nd (Nat.le_of_eq hl.symm)
    rw [e1, e]
    refine Eq.trans (pure_bind none K) ((e2 none [] rfl (Nat.le_of_eq hl) (Nat.zero_le _)).trans ?_)
    rw [List.drop_nil, List.append_nil]
    rfl
  rcases simple_inv h with ⟨a, e⟩ | ⟨a, b, e⟩
  · exact key e (List.nodup_cons.mpr ⟨(fun q => nomatch q), List.nodup_nil⟩)
  · exact key e (List.nodup_cons.mpr ⟨fun q => hne a.arg b.arg (by rw [e]; rfl) (List.mem_singleton.mp q), List.nodup_cons.mpr ⟨(fun q => nomatch q), List.nodup_nil⟩⟩)
/-- a def of plain parameters, some of them with defaults -/
theorem binds_plain {M : Model} {A : Around} {E : Value → Shared → Prop} {s : Shared} {Q : List (Str × Value) → Shared → Prop} {fd : FuncData} {as : List Arg} {kwd : List (Option Expr)} {dfs : List Expr} {vals ds : List Value} {it : Option (Array Value)} (hp : fd.params = ⟨[], as, none, [], kwd, none, dfs⟩) (nd : (as.map (·.arg)).Nodup) (h1 : vals.length ≤ as.length) (h2 : as.length ≤ vals.length + ds.length) (h3 : ds.length ≤ as.length)
    (hit : (it.getD #[]).toList = ds) (hsi : ∀ Q', Q' it s → wpAny M A (seqItems? fd.defaults) Q' E s) (hQ : Q ((as.map (·.arg)).zip (vals ++ ds.drop (ds.length - (as.length - vals.length)))) s) : wpAny M A (bindArgs fd ⟨vals, []⟩) Q E s := by
  obtain ⟨K, e1, e2⟩ := bind_pure (vals := vals) hp nd h1
  rw [e1]
  refine wpAny_bind (hsi _ ?_)
  rw [e2 it ds hit h2 h3]
  exact wpAny_pure hQ
theorem simple_len {a : Arguments} (h : simpleArgs a = true) : (∃ x, argNames a = [x]) ∨ (∃ x y, argNames a = [x, y]) := by
  rcases simple_inv h with ⟨a, rfl⟩ | ⟨a, b, rfl⟩
  · exact .inl ⟨_, rfl⟩
  · exact .inr ⟨_, _, rfl⟩
theorem cloOk_iff {ps : List Str} {sc : Scope} (h : cloOk ps sc = true) : sc.kind = .function ∧ sc.isCoroutine = false ∧ sc.isGenerator = false ∧ lamSc sc = false ∧ (∀ x ∈ ps, sc.names.lookup x = some .local) ∧ (∀ a b, ps = [a, b] → a ≠ b) ∧ (∀ q ∈ sc.names, (q.1 == ("__debug__" : Str)) = false ∧ q.2 ≠ .cell ∧ q.2 ≠ .free) := by
  unfold cloOk at h
  simp only [Bool.and_eq_true] at h
  obtain ⟨⟨⟨⟨⟨⟨h1, h2⟩, h3⟩, h4⟩, h5⟩, h6⟩, h7⟩ := h
  refine ⟨by revert h1; cases sc.kind <;> simp, by simpa using h2, by simpa using h3, by simpa using h4, fun x hx => ?_, ?_, fun q hq => ?_⟩
  · have := List.all_eq_true.mp h5 x hx
    unfold isLoc at this
    rw [slook_eq] at this
    revert this
    split
    · rename_i h; exact fun _ => h
    · exact fun h => absurd h Bool.false_ne_true
  · rintro a b rfl
    exact (seq_false _ _).mp (by simpa using h6)
  · have := List.all_eq_true.mp h7 q hq
    replace this := and2 this
    obtain ⟨a, b⟩ := this
    refine ⟨by rw [beq_eq_false_iff_ne]; exact (seq_false _ _).mp (by simpa using a), ?_, ?_⟩
    · intro e; rw [e] at b; (first | exact Mine.ns b | exact Mine.ft b | exact Mine.sn b | exact Mine.tf b | cases b)
    · intro e; rw [e] at b; (first | exact Mine.ns b | exact Mine.ft b | exact Mine.sn b | exact Mine.tf b | cases b)
/-- the names of a lambda's frame -/
theorem clo_names {R : Rc} {ρ : List Addr} {pu : Led} {ps : List Str} {args : List V} {vals : List Value} (hps : (∃ x, ps = [x]) ∨ (∃ x y, ps = [x, y] ∧ x ≠ y)) (hl : ps.length = args.length) (hv : VRs R ρ pu args vals) {x : Str} {dv : V} (h : (zipL ps args).lookup x = some dv) :
    x ∈ ps ∧ ∃ v, (ps.zip vals).reverse.lookup x = some v ∧ VR R ρ pu dv v := by
  rcases hps with ⟨a, rfl⟩ | ⟨a, b, rfl, hne⟩
  · obtain ⟨d, rfl⟩ := List.length_eq_one_iff.mp hl.symm
    obtain ⟨v, _, rfl, h1, h2⟩ := hv.cons_inv
    obtain rfl := h2.nil_inv
    have h : List.lookup x [(a, d)] = some dv := h
    rw [List.lookup_cons] at h
    revert h; refine zB fun hx h => ?_
    obtain rfl := Option.some.inj h
    obtain rfl := beq_iff_eq.mp hx
    exact ⟨List.mem_cons_self .., _, List.lookup_cons_self, h1⟩
  · obtain ⟨d, e, rfl⟩ := len2 hl.symm
    obtain ⟨v, _, rfl, h1, h2⟩ := hv.cons_inv
    obtain ⟨w, _, rfl, h4, h3⟩ := h2.cons_inv
    clear h2
    obtain rfl := h3.nil_inv
    have h : List.lookup x [(a, d), (b, e)] = some dv := h
    rw [List.lookup_cons] at h
    cases hx : x == a with
    | true =>
      rw [hx] at h
      obtain rfl := Option.some.inj h
      obtain rfl := beq_iff_eq.mp hx
      exact ⟨List.mem_cons_self .., v, by show List.lookup x [(b, w), (x, v)] = _; rw [List.lookup_cons, beq_eq_false_iff_ne.mpr hne]; exact List.lookup_cons_self, h1⟩
    | false =>
      rw [hx] at h
      have h : List.lookup x [(b, e)] = some dv := h
      rw [List.lookup_cons] at h
      revert h; refine zB fun hx h => ?_
      obtain rfl := Option.some.inj h
      obtain rfl := beq_iff_eq.mp hx
      exact ⟨List.mem_cons_of_mem _ (List.mem_cons_self ..), w, List.lookup_cons_self, h4⟩
section
variable {Z : ZP} {G : Glb} {p : Par} {A : Around} {sc : Scope} {fenv env : Env} {h₀ : Heap} {L : Addr} {d : Nat} {fr own : Led} {st st' : St} {ρ ρ' : List Addr} {pu pu' : Led} {s : Shared} {ih : Ev}
theorem clo_frm {f : Addr} {cdv : Value} {qual : Str} {g : Heap} {L' : Addr} {ps : List Str} (Fm : Clr G A fenv h₀ L d) {csc : Scope} (hs : cloOk ps csc = true) (B : ∃ base outer, Below A base outer g ∧ A.frames = some outer) (X : G.R.K.In g) (T : Top G.p G.loose G.mean G.mg G.mb g) :
    Frm G (A.deeper (envX qual csc L' f cdv [])) csc (envX qual csc L' f cdv []) (envX qual csc L' f cdv []) g L' d := by
  obtain ⟨hk, hc, hg, hlm, hloc, hne, hn⟩ := cloOk_iff hs
  obtain ⟨base, outer, B, hA⟩ := B
  refine { below := ⟨A, base, outer, B, ?_⟩, fl := rfl, fk := hk, kin := X, top := T, hand := Fm.hand, depth := ?_, units := ?_, ek := hk, eg := rfl, eb := rfl, glo := fun _ h => h, lcl := fun _ h => h, clo := fun _ h => h, cls := ?_, dbg := ?_, fe := fun h => absurd h (by rw [hlm]; exact Bool.false_ne_true) }
  · show A.frames.map _ = _
    rw [hA]; rfl
  · have := Fm.depth
    show (A.depth + 1) + 2 * d + 10 ≤ 900
    lia
  · have := Fm.units
    show (A.units + 3) + 8 * d + 200 ≤ 9900
    lia
  · intro x hx
    have hx : csc.names.lookup x = some .cell ∨ csc.names.lookup x = some .free := hx
    rcases hx with hx | hx
    · exact absurd rfl (hn _ (lookup_memL hx)).2.1
    · exact absurd rfl (hn _ (lookup_memL hx)).2.2
  · intro x k hx
    exact (hn _ (lookup_memL hx)).1
set_option tactic.hygienic true in
theorem clos_ok : ClosOk G := by
  intro d ih S ps body lsc args st v st' hlen hok hev x A sc fenv env h₀ L Fm Z fr own ρ pu s vals kws Q I hx hv hk hQ
  have hk : kws = [] := hk
  subst hk
  obtain ⟨_, _, _, _, _, _, _, _, _, rfl, h1, h2, h3, h4, h5, h6⟩ := hx.clo_inv; clear hx
  rename_i f c' oc fvs tq qual params pm ctv
  subst h5
  obtain ⟨hkd, hc, hg, hlm, hloc, hne, hn⟩ := cloOk_iff hok
  obtain ⟨A₀, base, outer, B₀, hA⟩ := Fm.below
  obtain ⟨m, mm, tb, chs, W⟩ := I
  have hvl := hv.length
  have inLed : ∀ q ∈ pu, q ∈ LED fr own tb chs pu := fun q hq => List.mem_append_right _ (List.mem_append_right _ (List.mem_append_right _ (List.mem_append_right _ hq)))
  have hnm : (∃ x, argNames params = [x]) ∨ (∃ x y, argNames params = [x, y] ∧ x ≠ y) := by
    rcases simple_len h6 with ⟨x, e⟩ | ⟨x, y, e⟩
    · exact .inl ⟨x, e⟩
    · exact .inr ⟨x, y, e, hne x y e⟩
  refine wpAny_call (kla_code (name := "<lambda>") (cl := []) (binds := (argNames params).zip vals) B₀ W.F Fm.kin W.N Fm.top hA Fm.fl Fm.fk (inLed _ h1) ⟨c', oc, fvs, tq, rfl, W.puMem h2, h3, h4⟩ ?_ (bind_simple h6 hne (by lia)) ?_ ?_ hc hg hkd (fun q hq => (hn q hq).2.1))
  · have := Fm.depth
    show A.depth < 1000
    lia
  · intro y hy
    exact hloc _ (List.of_mem_zip hy).1
  · intro g L' h₁ FG F' N' B' X' T'
    have Fm' := clo_frm (f := f) (cdv := .ref c') (qual := qual) (L' := L') Fm.clr hok ⟨base, fenv :: outer, B', hA⟩ X' T'
    have eL : LED (fr ++ own) [] tb chs pu = LED fr own tb chs pu := by unfold LED; simp
    have W' : InvW G.R Z0 (envX qual lsc L' f (.ref c') []) g L' (fr ++ own) [] ⟨zipL (argNames params) args, st.h⟩ ρ pu h₁ (fun y => ((argNames params).zip vals).reverse.lookup y) (fun y => ((argNames params).zip vals).reverse.lookup y) tb chs := by
      refine ⟨F', trivial, by rw [eL]; exact N', by rw [eL]; exact W.nd, .inl ⟨rfl, rfl⟩, ?_, W.ms, W.tb⟩
      intro y dv hy
      obtain ⟨hmem, w, e1, e2⟩ := clo_names hnm hlen hv hy
      exact .inl ⟨hloc _ hmem, w, e1, e2⟩
    refine wpAny_mono (S _ _ _ _ _ hev _ _ _ g L' Fm' (Z := Z0) (fr ++ own) [] ρ pu { s with heap := h₁, toks := s.toks + ((argNames params).zip vals).length } (fun v s' => LeaveK h₀ L m g (fun r s' => match r with | .ok (.ret v) => Q v s' | _ => False) v s') ⟨_, _, tb, chs, W'⟩ ?_) ?_ fun _ _ x => x.elim
    · intro v' ρ' pu' s' p1 q1 vr J sm
      obtain ⟨m', mm', tb', chs', W2⟩ := J
      refine leaveK_ W2.F W2.N fun F2 N2 => ?_
      have eL2 : LED (fr ++ own) [] tb' chs' pu' = LED fr own tb' chs' pu' := by unfold LED; simp
      have nd2 := W2.nd
      rw [eL2] at N2 nd2
      exact hQ v' ρ' pu' s' p1 q1 vr ⟨m, mm, tb', chs', F2, W.z, N2, nd2, W.ns, W.nm.mono p1 q1, W2.ms, W2.tb⟩ (Same.trans (Same.toks s h₁ _) sm)
    · intro v' s' hl
      exact hl
end
end Mine

end
section -- P9
namespace Mine
open PySem PySem.W PySem.Calls PyProof.Rows

theorem hdS_iff {l : List Str} {x : Str} (h : hdS l = some x) : l = [x] := by
  cases l with
  | nil => exact ns h
  | cons y r => obtain ⟨q, rfl⟩ := bif_some h; rw [List.isEmpty_iff.mp q]
theorem conInt_iff {k : Const} {i : Int} (h : conInt k = some i) : k = .int i := by (first | exact Mine.ns k | exact Mine.ft k | exact Mine.sn k | exact Mine.tf k | cases k) <;> first | exact congrArg _ (Option.some.inj h) | exact Mine.ns h
theorem isConE_iff {e : Expr} {k : Const} (h : isConE e = some k) : ∃ a b, e = .Constant k a b := by
  (first | exact Mine.ns e | exact Mine.ft e | exact Mine.sn e | exact Mine.tf e | cases e) <;> first | exact Mine.ns h | skip
  obtain rfl := Option.some.inj h; exact ⟨_, _, rfl⟩
theorem isSubE_iff {e : Expr} {q : Expr × Expr} (h : isSubE e = some q) : ∃ p, e = .Subscript q.1 q.2 p := by
  (first | exact Mine.ns e | exact Mine.ft e | exact Mine.sn e | exact Mine.tf e | cases e) <;> first | exact Mine.ns h | skip
  obtain rfl := Option.some.inj h; exact ⟨_, rfl⟩
theorem keyClo_inv {f : V} (h : keyClo f = true) : ∃ x p c1 c2 q sc, f = .clo [x] (.Subscript (.Name x p) (.Constant (.int 0) c1 c2) q) sc ∧ cloOk [x] sc = true := by
  cases f with
  | clo ps body sc =>
    have h : (match keyB ps body with | some x => cloOk [x] sc | none => false) = true := h
    cases hb : keyB ps body with
    | none => rw [hb] at h; exact ft h
    | some x =>
      rw [hb] at h
      obtain ⟨x', h1, hb⟩ := bind2 hb
      obtain ⟨q, h2, hb⟩ := bind2 hb
      obtain ⟨y, h3, hb⟩ := bind2 hb
      obtain ⟨k, h4, hb⟩ := bind2 hb
      obtain ⟨i, h5, hb⟩ := bind2 hb
      obtain ⟨hq, rfl⟩ := bif_some hb
      obtain ⟨p, h3⟩ := isNamE_iff h3
      obtain ⟨c1, c2, h4⟩ := isConE_iff h4
      obtain ⟨pp, h2⟩ := isSubE_iff h2
      refine ⟨x', p, c1, c2, pp, sc, ?_, h⟩
      rw [hdS_iff h1, h2, h3, h4, conInt_iff h5, ← (seq_iff _ _).mp (and2 hq).2, show i = 0 from beq_iff_eq.mp (ieq_iff i 0 ▸ (and2 hq).1)]
  | _ => exact ft h

section
variable {α β : Type}
theorem insK_map (f : α → β) (i : Int) (v : α) : ∀ l : List (Int × α), insK i (f v) (l.map fun p => (p.1, f p.2)) = (insK i v l).map fun p => (p.1, f p.2)
  | [] => rfl
  | j :: r => by
    rw [List.map_cons]
    unfold insK
    simp only []
    cases ilt j.1 i with
    | true => simp only []; rw [insK_map f i v r]; rfl
    | false => rfl
theorem sortK_map (f : α → β) : ∀ l : List (Int × α), sortK (l.map fun p => (p.1, f p.2)) = (sortK l).map fun p => (p.1, f p.2)
  | [] => rfl
  | j :: r => by
    show insK j.1 (f j.2) (sortK (r.map _)) = (insK j.1 j.2 (sortK r)).map _
    rw [sortK_map f r, insK_map]
theorem insK_perm (i : Int) (v : α) : ∀ l : List (Int × α), (insK i v l).Perm ((i, v) :: l)
  | [] => .refl _
  | j :: r => by
    unfold insK
    split
    · exact (List.Perm.cons j (insK_perm i v r)).trans (List.Perm.swap (i, v) j r)
    · exact .refl _
theorem sortK_perm : ∀ l : List (Int × α), (sortK l).Perm l
  | [] => .refl _
  | j :: r => (insK_perm j.1 j.2 _).trans (List.Perm.cons j (sortK_perm r))
theorem strictK_pw : ∀ {l : List (Int × α)}, strictK l = true → l.Pairwise fun p q => p.1 < q.1
  | [], _ => .nil
  | p :: r, h => by
    have h : (r.all (fun q => ilt p.1 q.1) && strictK r) = true := h
    replace h := and2 h
    rw [List.pairwise_cons]
    refine ⟨fun q hq => ?_, strictK_pw h.2⟩
    have := List.all_eq_true.mp h.1 q hq
    rw [ilt_iff] at this
    simpa using this
theorem strictK_map (f : α → β) : ∀ l : List (Int × α), strictK (l.map fun p => (p.1, f p.2)) = strictK l
  | [] => rfl
  | p :: r => by
    show ((r.map _).all _ && strictK (r.map _)) = _
    rw [strictK_map f r, List.all_map]
    rfl
theorem pw_inj {l : List (Int × α)} (h : l.Pairwise fun p q => p.1 < q.1) : ∀ a ∈ l, ∀ b ∈ l, a.1 = b.1 → a = b := by
  induction l with
  | nil => intro a ha; (first | exact Mine.ns ha | exact Mine.ft ha | exact Mine.sn ha | exact Mine.tf ha | cases ha)
  | cons p r ih =>
    rw [List.pairwise_cons] at h
    intro a ha b hb e
    rcases List.mem_cons.mp ha with ha | ha
    · rcases List.mem_cons.mp hb with hb | hb
      · rw [ha, hb]
      · have := h.1 b hb; rw [← ha] at this; lia
    · rcases List.mem_cons.mp hb with hb | hb
      · have := h.1 a ha; rw [← hb] at this; lia
      · exact ih h.2 a ha b hb e
theorem sorted_is {l ps : List (Int × α)} (hs : strictK (sortK l) = true) (hp : ps.Perm l) (ho : ps.Pairwise fun p q => p.1 ≤ q.1) : ps = sortK l := by
  have h1 := strictK_pw hs
  have hperm : ps.Perm (sortK l) := hp.trans (sortK_perm l).symm
  refine List.Perm.eq_of_pairwise (le := fun p q => p.1 ≤ q.1) (fun a b ha hb h2 h3 => ?_) ho (h1.imp fun h => Int.le_of_lt h) hperm
  exact pw_inj h1 a (hperm.mem_iff.mp ha) b hb (Int.le_antisymm h2 h3)
end
/-- keys, things, their worths -/
noncomputable def trip : List (Int × V) → List Value → List (Int × (V × Value))
  | p :: r, v :: vs => (p.1, (p.2, v)) :: trip r vs
  | _, _ => []
section
variable {Z : ZP} {G : Glb} {p : Par} {A : Around} {sc : Scope} {fenv env : Env} {h₀ : Heap} {L : Addr} {d : Nat} {fr own : Led} {st st' : St} {ρ ρ' : List Addr} {pu pu' : Led} {s : Shared} {ih : Ev}
theorem trip_fst {R : Rc} : ∀ {ps : List (Int × V)} {vs : List Value}, VRs R ρ pu (ps.map (·.2)) vs → (trip ps vs).map (fun p => (p.1, p.2.1)) = ps ∧ (trip ps vs).map (fun p => (p.1, p.2.2)) = (ps.map (·.1)).zip vs ∧ ∀ q ∈ trip ps vs, VR R ρ pu q.2.1 q.2.2
  | [], vs, h => by (first | exact Mine.ns h | exact Mine.ft h | exact Mine.sn h | exact Mine.tf h | cases h); exact ⟨rfl, rfl, fun q hq => nomatch hq⟩
  | q :: r, vs, h => by
    cases h with
    | cons h1 h2 =>
      obtain ⟨a, b, c⟩ := trip_fst h2
      refine ⟨by simp [trip, a], by simp [trip, b], fun q' hq => ?_⟩
      rcases List.mem_cons.mp hq with rfl | hq
      · exact h1
      · exact c q' hq
theorem VRs_of_all {R : Rc} : ∀ {T : List (Int × (V × Value))}, (∀ q ∈ T, VR R ρ pu q.2.1 q.2.2) → VRs R ρ pu (T.map (·.2.1)) (T.map (·.2.2))
  | [], _ => .nil
  | q :: r, h => .cons (h q (List.mem_cons_self ..)) (VRs_of_all fun x hx => h x (List.mem_cons_of_mem _ hx))
theorem firstInts_map {l : List V} : ∀ {ps : List (Int × V)}, firstInts l = some ps → ps.map (·.2) = l ∧ ∀ q ∈ ps, ∃ r, q.2 = .tup (.int q.1 :: r) := by
  induction l with
  | nil => intro ps h; obtain rfl := Option.some.inj h; exact ⟨rfl, fun q hq => nomatch hq⟩
  | cons d q ih =>
    intro ps h
    obtain ⟨t, h1, h⟩ := bind2 h
    obtain ⟨i, h2, h⟩ := bind2 h
    obtain ⟨qs, h3, h⟩ := bind2 h
    obtain rfl := Option.some.inj h
    obtain ⟨a, b⟩ := ih h3
    refine ⟨congrArg (d :: ·) a, fun x hx => ?_⟩
    rcases List.mem_cons.mp hx with rfl | hx
    · cases t with
      | nil => exact Mine.ns h2
      | cons w r => exact ⟨r, by rw [tupOf_iff h1, intOf_iff h2]⟩
    · exact b x hx
set_option tactic.hygienic true in
theorem b_sortKey (P : ParOk G p) (Fm : Frm G A sc fenv env h₀ L (d + 1)) {hh : List MO} {l : List (Str × V)} {o f : V} {x y : Value} {l' : List V} {ps : List (Int × V)} {Q : Value → Shared → Prop} (hd : lstD hh o = some l') (hi : firstInts l' = some ps) (hlen : l'.length < 64) (hk : keyClo f = true) (hst : strictK (sortK ps) = true)
    (I : Inv G.R Z env h₀ L fr own ⟨l, hh⟩ ρ pu s.heap) (hx : VR G.R ρ pu o x) (hy : VR G.R ρ pu f y)
    (hQ : EP G.R Z env h₀ L fr own ⟨l, hh⟩ ρ pu s (.lst ((sortK ps).map (·.2))) Q) : wpAny (model G.prog G.w) A (call (.builtin "sorted") [x] [(("key" : Str), y)]) Q noE s := by
  refine opq fun GG kk => ?_
  obtain ⟨a, vs, n, rfl, g, hr⟩ := I.lst hx hd
  have e1 := hr.length
  obtain ⟨hm1, hm2⟩ := firstInts_map hi
  obtain ⟨xx, yp, ck, cp, pp, lsc, rfl, hok⟩ := keyClo_inv hk
  obtain ⟨_, _, _, _, _, _, _, _, _, rfl, h1, h2, h3, h4, h5, h6⟩ := hy.clo_inv; clear hy
  rename_i fa c' oc fvs tq qual params pm ctv
  obtain ⟨hkd, hc, hg, hlm, hloc, hne, hn⟩ := cloOk_iff hok
  obtain ⟨A₀, base, outer, B₀, hA⟩ := Fm.below
  obtain ⟨m, mm, tb, chs, W⟩ := I
  have inLed : ∀ q ∈ pu, q ∈ LED fr own tb chs pu := fun q hq => List.mem_append_right _ (List.mem_append_right _ (List.mem_append_right _ (List.mem_append_right _ hq)))
  have hr' : VRs G.R ρ pu (ps.map (·.2)) vs := by rw [hm1]; exact hr
  obtain ⟨t1, t2, t3⟩ := trip_fst hr'
  have hplen : ps.length = l'.length := by rw [← hm1, List.length_map]
  refine kk ?_
  refine ksk_sorted (kz := ps.map (·.1)) (b := false) W.F W.N ⟨_, g, rfl, n, rfl⟩ (by rw [List.length_map]; lia) (by lia) (ksk_s1 _ _) (fun x => ksk_l1 _ _) (fun x => ksk_t1 _ _) ?_ ?_
  · intro i v k hv hki h tk own' F' N'
    -- the element and its first
    rw [List.getElem?_map] at hki
    obtain ⟨q, hq, rfl⟩ := Option.map_eq_some_iff.mp hki
    obtain ⟨r, hqr⟩ := hm2 q (List.mem_of_getElem? hq)
    have hvr : VR G.R ρ pu q.2 v := by
      have := VRs.nth' hr' (n := i) (r := q.2) (by rw [List.getElem?_map, hq]; rfl)
      obtain ⟨v', a1, a2⟩ := this
      rw [hv] at a1
      (first | exact Mine.ns a1 | exact Mine.ft a1 | exact Mine.sn a1 | exact Mine.tf a1 | cases a1)
      exact a2
    rw [hqr] at hvr
    have hpn : argNames params = [xx] := h5.symm
    refine wpAny_call (kla_code (name := "<lambda>") (cl := []) (binds := (argNames params).zip [v]) B₀ F' Fm.kin N' Fm.top (A := A.in1.in1) hA Fm.fl Fm.fk (List.mem_append_left _ (inLed _ h1)) ⟨c', oc, fvs, tq, rfl, (N' _ (List.mem_append_left _ (inLed _ h2))).1, h3, h4⟩ ?_ (bind_simple h6 (fun a b e => by rw [hpn] at e; (first | exact Mine.ns e | exact Mine.ft e | exact Mine.sn e | exact Mine.tf e | cases e)) (by rw [hpn]; rfl)) ?_ ?_ hc hg hkd (fun q hq => (hn q hq).2.1))
    · have := Fm.depth
      show A.depth < 1000
      lia
    · intro y hy
      exact hloc _ (by rw [← hpn]; exact (List.of_mem_zip hy).1)
    · intro g' L' h₁ FG F2 N2 B' X' T'
      have hlx : lsc.names.lookup xx = some .local := hloc _ (List.mem_cons_self ..)
      have hmx : (((argNames params).zip [v]).reverse.lookup xx) = some v := by rw [hpn]; simp [List.lookup]
      have hdbg := (hn _ (lookup_memL hlx)).1
      -- the tuple
      have htup : ∃ ta vs', v = .ref ta ∧ IsTup h₁ ta vs'.toArray ∧ VRs G.R ρ pu (.int q.1 :: r) vs' := by
        cases hvr with
        | tup hm hrr => exact ⟨_, _, rfl, ⟨_, (N2 _ (List.mem_append_left _ (inLed _ hm))).1, rfl, _, rfl⟩, hrr⟩
        | tupK hm hrr => exact ⟨_, _, rfl, ⟨_, F2.keep _ _ (X' _ _ hm), rfl, _, rfl⟩, hrr⟩
      obtain ⟨ta, vs', rfl, htup, hrr⟩ := htup
      have hq := hrr.cons_inv; clear hrr; obtain ⟨_, _, rfl, hh1, hrr⟩ := hq
      obtain ⟨_, rfl⟩ := hh1.int_inv; clear hh1
      rename_i t0
      refine wpAny_mono (E := noE) (Subscript_ (wpAny_Name (wpAny_loadName_local hkd hlx F2.ns hmx ?_) hdbg)) (fun _ _ x => x) fun _ _ x => x.elim
      intro tk3 tk4 tk5
      refine tup_at (m := 0) htup (fun _ _ _ _ h => by (first | exact Mine.ns h | exact Mine.ft h | exact Mine.sn h | exact Mine.tf h | cases h)) (by decide) rfl ?_
      refine leaveK_ F2 N2 fun F3 N3 => ?_
      exact ⟨_, _, t0, rfl, rfl, F3, N3⟩
  · intro D h' tk out c F' N' hlt hko
    obtain ⟨ps', hp, ho, hs⟩ := hko
    rw [← t2] at hp
    have hT : strictK (sortK ((trip ps vs).map fun p => (p.1, p.2.2))) = true := by
      rw [sortK_map (fun q : V × Value => q.2), strictK_map (fun q : V × Value => q.2), ← strictK_map (fun q : V × Value => q.1), ← sortK_map (fun q : V × Value => q.1), t1]
      exact hst
    have hs' : ps'.Pairwise fun p q => p.1 ≤ q.1 := hs.imp fun h => by simpa using h
    have e := sorted_is hT hp hs'
    rw [sortK_map (fun q : V × Value => q.2)] at e
    have e2 : out.toList = (sortK (trip ps vs)).map (·.2.2) := by
      rw [ho, e, List.map_map]; rfl
    have e3 : (sortK ps).map (·.2) = (sortK (trip ps vs)).map (·.2.1) := by
      conv => lhs; rw [← t1, sortK_map (fun q : V × Value => q.1), List.map_map]
      rfl
    have fs : D ∉ (LED fr own tb chs pu).map (·.1) := fresh_lt hlt
    have W' := W.pure P.ok F' N' fs
    have sub : Sub pu ((D, seqObj "list" out c) :: pu) := fun p hp => List.mem_cons_of_mem _ hp
    refine hQ _ ρ _ { s with heap := h', toks := tk } (Pre.refl _) sub ?_ ⟨m, mm, tb, chs, W'⟩ ⟨_, _, rfl⟩
    rw [e3]
    refine .lst (vs := (sortK (trip ps vs)).map (·.2.2)) (n := c) ?_ ?_
    · rw [← e2, Array.toArray_toList]; exact List.mem_cons_self ..
    · exact VRs.mono (Pre.refl _) sub (VRs_of_all fun q hq => t3 q ((sortK_perm _).mem_iff.mp hq))
theorem calls1 {f : Value} {a v : V} {l : List (Str × V)} {hh h' : List MO} {D : Nat}
    (H : ∀ A sc fenv env h₀ L, Frm G A sc fenv env h₀ L D → ∀ (Z : ZP) fr own ρ pu s x Q, Inv G.R Z env h₀ L fr own ⟨l, hh⟩ ρ pu s.heap → VR G.R ρ pu a x → EP G.R Z env h₀ L fr own ⟨l, h'⟩ ρ pu s v Q → wpAny (model G.prog G.w) A (call f [x]) Q noE s) : CallsTo G D f [a] none ⟨l, hh⟩ v h' (fun _ _ => True) := by
  intro A sc fenv env h₀ L Fm Z fr own ρ pu s vals kws Q I _ hv hk hQ
  have hk : kws = [] := hk
  subst hk
  obtain ⟨_, _, rfl, h1, h2⟩ := hv.cons_inv; clear hv
  obtain rfl := h2.nil_inv; clear h2
  exact H A sc fenv env h₀ L Fm Z fr own ρ pu s _ Q I h1 hQ
theorem calls2 {f : Value} {a b v : V} {l : List (Str × V)} {hh h' : List MO} {D : Nat}
    (H : ∀ A sc fenv env h₀ L, Frm G A sc fenv env h₀ L D → ∀ (Z : ZP) fr own ρ pu s x y Q, Inv G.R Z env h₀ L fr own ⟨l, hh⟩ ρ pu s.heap → VR G.R ρ pu a x → VR G.R ρ pu b y → EP G.R Z env h₀ L fr own ⟨l, h'⟩ ρ pu s v Q → wpAny (model G.prog G.w) A (call f [x, y]) Q noE s) : CallsTo G D f [a, b] none ⟨l, hh⟩ v h' (fun _ _ => True) := by
  intro A sc fenv env h₀ L Fm Z fr own ρ pu s vals kws Q I _ hv hk hQ
  have hk : kws = [] := hk
  subst hk
  obtain ⟨_, _, rfl, h1, h2⟩ := hv.cons_inv; clear hv
  have hq := h2.cons_inv; clear h2; obtain ⟨_, _, rfl, h2, h3⟩ := hq
  obtain rfl := h3.nil_inv; clear h3
  exact H A sc fenv env h₀ L Fm Z fr own ρ pu s _ _ Q I h1 h2 hQ
/-- what is to be shown of a built-in -/
noncomputable abbrev BiS (G : Glb) (d k : Nat) (args : List V) (st : St) (v : V) (st' : St) : Prop := st'.l = st.l ∧ CallsTo G (d + 1) (biV k) args none st v st'.h (fun _ _ => True)
section
variable {l : List (Str × V)} {hh : List MO} {v : V} {st' : St}
set_option tactic.hygienic true in
theorem k_len' (X : FxOk G p) {a : V} (e : biLen p a ⟨l, hh⟩ = some (v, st')) : BiS G d 0 [a] ⟨l, hh⟩ v st' := by
  refine opq fun GG kk => ?_
  unfold biLen at e
  (first | (revert e; refine mb (fun _ e => ?_) (fun _ e => ?_)) | split at e)
  · rename_i n hd
    revert e; refine zB fun _ e => ?_
    rename_i hb
    obtain ⟨rfl, rfl⟩ := oPi e
    refine kk ?_
    exact ⟨rfl, calls1 fun A sc fenv env h₀ L Fm Z fr own ρ pu s x Q I hx hQ => b_len1 Fm hd (Nat.blt_eq.mp hb) I hx hQ⟩
  · revert e; refine zOV fun _ _ e => ?_
    rename_i hf
    obtain ⟨rfl, rfl⟩ := oPi e
    refine kk ?_
    refine ⟨rfl, calls1 fun A sc fenv env h₀ L Fm Z fr own ρ pu s x Q I hx hQ => ?_⟩
    obtain ⟨a, vs, n, rfl, hm, hl, hv⟩ := X.len _ _ hf _ _ _ hx
    refine PyProof.Rows.len_list (items := vs.toArray) ⟨_, I.inPu _ hm, rfl, n, rfl⟩ (by rw [List.size_toArray]; lia) ?_
    rw [List.size_toArray]
    exact hQ.here (hv _) I
theorem k_rng1 (PO : ParOk G p) {a : V} (e : biRng1 a ⟨l, hh⟩ = some (v, st')) : BiS G d 1 [a] ⟨l, hh⟩ v st' := by
  refine opq fun GG kk => ?_
  unfold biRng1 at e
  revert e; refine zOInt fun _ _ e => ?_
  rename_i i hi
  have := intOf_iff hi
  subst this
  obtain ⟨rfl, rfl⟩ := oPi e
  refine kk ?_
  refine ⟨rfl, calls1 fun A sc fenv env h₀ L Fm Z fr own ρ pu s x Q I hx hQ => ?_⟩
  obtain ⟨t, rfl⟩ := hx.int_inv
  exact b_range1 PO I hQ
theorem k_rng2 (PO : ParOk G p) {a b : V} (e : biRng2 a b ⟨l, hh⟩ = some (v, st')) : BiS G d 1 [a, b] ⟨l, hh⟩ v st' := by
  refine opq fun GG kk => ?_
  unfold biRng2 at e
  revert e; refine zOInt fun _ _ e => ?_
  rename_i i hi
  revert e; refine zOInt fun _ _ e => ?_
  rename_i j hj
  have := intOf_iff hi
  subst this
  have := intOf_iff hj
  subst this
  obtain ⟨rfl, rfl⟩ := oPi e
  refine kk ?_
  refine ⟨rfl, calls2 fun A sc fenv env h₀ L Fm Z fr own ρ pu s x y Q I hx hy hQ => ?_⟩
  obtain ⟨t, rfl⟩ := hx.int_inv
  obtain ⟨u, rfl⟩ := hy.int_inv
  exact b_range2 PO I hQ
theorem k_sort (PO : ParOk G p) {a : V} (e : biSort a ⟨l, hh⟩ = some (v, st')) : BiS G d 2 [a] ⟨l, hh⟩ v st' := by
  refine opq fun GG kk => ?_
  unfold biSort at e
  revert e; refine zOLV fun _ _ e => ?_
  rename_i l' hd
  revert e; refine zOLInt fun _ _ e => ?_
  rename_i is hi
  revert e; refine zB fun _ e => ?_
  rename_i hlen
  obtain ⟨rfl, rfl⟩ := oPi e
  refine kk ?_
  exact ⟨rfl, calls1 fun A sc fenv env h₀ L Fm Z fr own ρ pu s x Q I hx hQ => b_sorted PO hd hi (Nat.blt_eq.mp hlen) I hx hQ⟩
theorem k_list (PO : ParOk G p) {a : V} (e : biList a ⟨l, hh⟩ = some (v, st')) : BiS G d 3 [a] ⟨l, hh⟩ v st' := by
  refine opq fun GG kk => ?_
  unfold biList at e
  revert e; refine zPII fun _ _ _ e => ?_
  rename_i i j hd
  have := rngOf_iff hd
  subst this
  revert e; refine zB fun _ e => ?_
  rename_i hsm
  obtain ⟨rfl, rfl⟩ := oPi e
  refine kk ?_
  exact ⟨rfl, calls1 fun A sc fenv env h₀ L Fm Z fr own ρ pu s x Q I hx hQ => b_listRange PO Fm hsm I hx hQ⟩
theorem k_tup (PO : ParOk G p) {a : V} (e : biTup a ⟨l, hh⟩ = some (v, st')) : BiS G d 4 [a] ⟨l, hh⟩ v st' := by
  refine opq fun GG kk => ?_
  unfold biTup at e
  revert e; refine zOLV fun _ _ e => ?_
  rename_i l' hd
  revert e; refine zB fun _ e => ?_
  rename_i hlen
  obtain ⟨rfl, rfl⟩ := oPi e
  refine kk ?_
  exact ⟨rfl, calls1 fun A sc fenv env h₀ L Fm Z fr own ρ pu s x Q I hx hQ => b_tuple PO hd (Nat.blt_eq.mp hlen) I hx hQ⟩
theorem k_str (hstr : ∀ o r, p.fx 5 [o] = some r → ∀ ρ pu x, VR G.R ρ pu o x → ∃ (i : Int) (t : Tok), x = .int i t ∧ i.natAbs.log2 < 1920 ∧ ∀ t', VR G.R ρ pu r (.str (toString i) t')) {a : V} (e : biStr p a ⟨l, hh⟩ = some (v, st')) : BiS G d 5 [a] ⟨l, hh⟩ v st' := by
  refine opq fun GG kk => ?_
  unfold biStr at e
  revert e; refine zOV fun _ _ e => ?_
  rename_i r hf
  obtain ⟨rfl, rfl⟩ := oPi e
  refine kk ?_
  refine ⟨rfl, calls1 fun A sc fenv env h₀ L Fm Z fr own ρ pu s x Q I hx hQ => ?_⟩
  obtain ⟨i, t, rfl, hb, hr⟩ := hstr _ _ hf _ _ _ hx
  exact P.str_of_int hb (hQ.here (hr _) I)
theorem k_app {a b : V} (e : biApp a b ⟨l, hh⟩ = some (v, st')) : BiS G d 10 [a, b] ⟨l, hh⟩ v st' := by
  refine opq fun GG kk => ?_
  unfold biApp at e
  revert e; refine zONat fun _ _ e => ?_
  rename_i n hn
  have := locOf_iff hn
  subst this
  revert e; refine zOLV fun _ _ e => ?_
  rename_i l' hl
  revert e; refine zB fun _ e => ?_
  rename_i hlen
  obtain ⟨rfl, rfl⟩ := oPi e
  refine kk ?_
  exact ⟨rfl, calls2 fun A sc fenv env h₀ L Fm Z fr own ρ pu s x y Q I hx hy hQ => b_append (st := ⟨l, hh⟩) (lstAt_iff hl) (Nat.blt_eq.mp hlen) I hx hy hQ⟩
set_option tactic.hygienic true in
theorem k_idx {a b : V} (e : biIdx a b ⟨l, hh⟩ = some (v, st')) : BiS G d 11 [a, b] ⟨l, hh⟩ v st' := by
  refine opq fun GG kk => ?_
  unfold biIdx at e
  (first | (revert e; refine mb (fun _ e => ?_) (fun _ e => ?_)) | split at e)
  · rename_i l' z hd hz
    have := strO_iff hz
    subst this
    (first | (revert e; refine mb (fun _ e => ?_) (fun _ e => ?_)) | split at e)
    · rename_i i hix hlen
      obtain ⟨rfl, rfl⟩ := oPi e
      unfold idxO at hix
      revert hix; refine zOLStr fun _ _ hix => ?_
      rename_i ss hi
      refine kk ?_
      refine ⟨rfl, calls2 fun A sc fenv env h₀ L Fm Z fr own ρ pu s x y Q I hx hy hQ => ?_⟩
      obtain ⟨t, rfl⟩ := hy.str_inv
      exact b_index hd hi (Nat.blt_eq.mp hlen) hix I hx hQ
    · (first | exact Mine.ns e | exact Mine.ft e | exact Mine.sn e | exact Mine.tf e | cases e)
  · (first | exact Mine.ns e | exact Mine.ft e | exact Mine.sn e | exact Mine.tf e | cases e)
set_option tactic.hygienic true in
theorem k_spl (PO : ParOk G p) {a b : V} (e : biSpl a b ⟨l, hh⟩ = some (v, st')) : BiS G d 12 [a, b] ⟨l, hh⟩ v st' := by
  refine opq fun GG kk => ?_
  unfold biSpl at e
  (first | (revert e; refine mb (fun _ e => ?_) (fun _ e => ?_)) | split at e)
  · rename_i z y hz hy
    have := strO_iff hz
    subst this
    have := strO_iff hy
    subst this
    revert e; refine zB fun _ e => ?_
    rename_i hx
    have := (seq_iff _ _).mp hx
    subst this
    revert e; refine zOLStr fun _ _ e => ?_
    rename_i ws hw
    obtain ⟨rfl, rfl⟩ := oPi e
    refine kk ?_
    refine ⟨rfl, calls2 fun A sc fenv env h₀ L Fm Z fr own ρ pu s x y Q I hx hy hQ => ?_⟩
    obtain ⟨t, rfl⟩ := hx.str_inv
    obtain ⟨u, rfl⟩ := hy.str_inv
    exact b_split PO hw I hQ
  · (first | exact Mine.ns e | exact Mine.ft e | exact Mine.sn e | exact Mine.tf e | cases e)
set_option tactic.hygienic true in
theorem k_fnd {a b : V} (e : biFnd a b ⟨l, hh⟩ = some (v, st')) : BiS G d 13 [a, b] ⟨l, hh⟩ v st' := by
  refine opq fun GG kk => ?_
  unfold biFnd at e
  (first | (revert e; refine mb (fun _ e => ?_) (fun _ e => ?_)) | split at e)
  · rename_i z y hz hy
    have := strO_iff hz
    subst this
    have := strO_iff hy
    subst this
    revert e; refine zONat fun _ _ e => ?_
    rename_i i hi
    obtain ⟨rfl, rfl⟩ := oPi e
    refine kk ?_
    refine ⟨rfl, calls2 fun A sc fenv env h₀ L Fm Z fr own ρ pu s x y Q I hx hy hQ => ?_⟩
    obtain ⟨t, rfl⟩ := hx.str_inv
    obtain ⟨u, rfl⟩ := hy.str_inv
    exact b_strIndex hi I hQ
  · (first | exact Mine.ns e | exact Mine.ft e | exact Mine.sn e | exact Mine.tf e | cases e)
set_option tactic.hygienic true in
theorem k_popV {a b : V} (e : popV a b ⟨l, hh⟩ = some (v, st')) : BiS G d 14 [a, b] ⟨l, hh⟩ v st' := by
  refine opq fun GG kk => ?_
  unfold popV at e
  (first | (revert e; refine mb (fun _ e => ?_) (fun _ e => ?_)) | split at e)
  · rename_i n hn hz
    have := locOf_iff hn
    subst this
    have := isZero_iff hz
    subst this
    revert e; refine zOLV fun _ _ e => ?_
    rename_i l' hl
    (first | (revert e; refine mb (fun _ e => ?_) (fun _ e => ?_)) | split at e)
    · rename_i y r hlen
      obtain ⟨rfl, rfl⟩ := oPi e
      refine kk ?_
      refine ⟨rfl, calls2 fun A sc fenv env h₀ L Fm Z fr own ρ pu s x y Q I hx hy hQ => ?_⟩
      obtain ⟨t, rfl⟩ := hy.int_inv
      exact b_pop (st := ⟨l, hh⟩) (lstAt_iff hl) (Nat.blt_eq.mp hlen) I hx hQ
    · (first | exact Mine.ns e | exact Mine.ft e | exact Mine.sn e | exact Mine.tf e | cases e)
  · (first | exact Mine.ns e | exact Mine.ft e | exact Mine.sn e | exact Mine.tf e | cases e)
end
theorem bi1_ok (PO : ParOk G p) (X : FxOk G p) (hstr : ∀ o r, p.fx 5 [o] = some r → ∀ ρ pu x, VR G.R ρ pu o x → ∃ (i : Int) (t : Tok), x = .int i t ∧ i.natAbs.log2 < 1920 ∧ ∀ t', VR G.R ρ pu r (.str (toString i) t')) {k : Nat} {a v : V} {st st' : St} (e : bi1 p k a st = some (v, st')) : BiS G d k [a] st v st' := by
  unfold bi1 at e
  cases h : Nat.beq k 0 <;> rw [h] at e
  · cases h : Nat.beq k 1 <;> rw [h] at e
    · cases h : Nat.beq k 2 <;> rw [h] at e
      · cases h : Nat.beq k 3 <;> rw [h] at e
        · cases h : Nat.beq k 4 <;> rw [h] at e
          · cases h : Nat.beq k 5 <;> rw [h] at e
            · (first | exact Mine.ns e | exact Mine.ft e | exact Mine.sn e | exact Mine.tf e | cases e)
            · rw [Nat.eq_of_beq_eq_true h]; exact k_str hstr e
          · rw [Nat.eq_of_beq_eq_true h]; exact k_tup PO e
        · rw [Nat.eq_of_beq_eq_true h]; exact k_list PO e
      · rw [Nat.eq_of_beq_eq_true h]; exact k_sort PO e
    · rw [Nat.eq_of_beq_eq_true h]; exact k_rng1 PO e
  · rw [Nat.eq_of_beq_eq_true h]; exact k_len' X e
theorem bi2_ok (PO : ParOk G p) {k : Nat} {a b v : V} {st st' : St} (e : bi2 k a b st = some (v, st')) : BiS G d k [a, b] st v st' := by
  unfold bi2 at e
  cases h : Nat.beq k 1 <;> rw [h] at e
  · cases h : Nat.beq k 10 <;> rw [h] at e
    · cases h : Nat.beq k 11 <;> rw [h] at e
      · cases h : Nat.beq k 12 <;> rw [h] at e
        · cases h : Nat.beq k 13 <;> rw [h] at e
          · cases h : Nat.beq k 14 <;> rw [h] at e
            · (first | exact Mine.ns e | exact Mine.ft e | exact Mine.sn e | exact Mine.tf e | cases e)
            · rw [Nat.eq_of_beq_eq_true h]; exact k_popV e
          · rw [Nat.eq_of_beq_eq_true h]; exact k_fnd e
        · rw [Nat.eq_of_beq_eq_true h]; exact k_spl PO e
      · rw [Nat.eq_of_beq_eq_true h]; exact k_idx e
    · rw [Nat.eq_of_beq_eq_true h]; exact k_app e
  · rw [Nat.eq_of_beq_eq_true h]; exact k_rng2 PO e
theorem bi_ok (PO : ParOk G p) (X : FxOk G p) (hstr : ∀ o r, p.fx 5 [o] = some r → ∀ ρ pu x, VR G.R ρ pu o x → ∃ (i : Int) (t : Tok), x = .int i t ∧ i.natAbs.log2 < 1920 ∧ ∀ t', VR G.R ρ pu r (.str (toString i) t')) : BiOk G p := by
  intro d k args kw st v st' e
  match args, kw, e with
  | [a], none, e => exact bi1_ok PO X hstr e
  | [a], some f, e =>
    have e : (match Nat.beq k 2 with | true => biSortK a f st | false => none) = some (v, st') := e
    cases h : Nat.beq k 2 <;> rw [h] at e
    · (first | exact Mine.ns e | exact Mine.ft e | exact Mine.sn e | exact Mine.tf e | cases e)
    · rw [Nat.eq_of_beq_eq_true h]
      obtain ⟨l, hh⟩ := st
      have e : biSortK a f ⟨l, hh⟩ = some (v, st') := e
      unfold biSortK at e
      revert e; refine zOLV fun _ _ e => ?_
      rename_i l' hd
      revert e; refine zOLIV fun _ _ e => ?_
      rename_i ps hi
      revert e; refine zB fun _ e => ?_
      rename_i hc
      replace hc := and3 hc
      obtain ⟨rfl, rfl⟩ := oPi e
      refine ⟨rfl, fun A sc fenv env h₀ L Fm Z fr own ρ pu s vals kws Q I _ hv hk hQ => ?_⟩
      obtain ⟨y, rfl, hy⟩ := hk
      obtain ⟨_, _, rfl, h1, h2⟩ := hv.cons_inv; clear hv
      obtain rfl := h2.nil_inv; clear h2
      exact b_sortKey PO Fm hd hi (Nat.blt_eq.mp hc.1.2) hc.1.1 hc.2 I h1 hy hQ
  | [a, b], none, e => exact bi2_ok PO e
  | [_, _], some _, e => (first | exact Mine.ns e | exact Mine.ft e | exact Mine.sn e | exact Mine.tf e | cases e)
  | [], _, e => (first | exact Mine.ns e | exact Mine.ft e | exact Mine.sn e | exact Mine.tf e | cases e)
  | _ :: _ :: _ :: _, _, e => (first | exact Mine.ns e | exact Mine.ft e | exact Mine.sn e | exact Mine.tf e | cases e)
end
end Mine

end
section -- P10
namespace Mine
open PySem PySem.W PySem.Calls PyProof.Rows

section
variable {Z : ZP} {G : Glb} {p : Par} {A : Around} {sc : Scope} {fenv env : Env} {h₀ : Heap} {L : Addr} {d : Nat} {fr own : Led} {st st' : St} {ρ ρ' : List Addr} {pu pu' : Led} {s : Shared} {ih : Ev}
theorem eval_Call_kw {f : Expr} {args : List Expr} {ks : List Keyword} {pos : Pos} (hf : ∀ o a q, f ≠ .Attribute o a q) : eval (.Call f args ks pos) env = (do callWith pos (← eval f env) [] (backTo pos (starEach args env)) (backToKw pos (keywordEach ks env))) := by
  (first | exact Mine.ns f | exact Mine.ft f | exact Mine.sn f | exact Mine.tf f | cases f) <;> first | rfl | exact absurd rfl (hf _ _ _)
theorem key_ok (P : ParOk G p) : KeyOk G p := by
  intro d ih S C NS sc f x kn kx kp pos st fv st₁ vs st₂ kv st₃ v st' hf hkn h1 hcal h2 h3 h4 A fenv env h₀ L Fm Z fr own ρ pu s Q I hQ
  obtain rfl := (seq_iff _ _).mp hkn
  rw [eval_Call_kw hf]
  refine wpAny_bind (S _ _ _ _ _ h1 A fenv env h₀ L Fm fr own ρ pu s _ I ?_)
  intro fx ρ1 pu1 s1 p1 q1 vf I1 sm1
  have hx : ∀ y q, x ≠ .Starred y q := by
    rintro y q rfl
    unfold evs at h2
    rw [NS] at h2; (first | exact Mine.ns h2 | exact Mine.ft h2 | exact Mine.sn h2 | exact Mine.tf h2 | cases h2)
  have he : starEach [x] env = (false, eval x env) :: starEach [] env := starEach_plain hx
  refine callWith_of (P := fun h => G.R.K.In h ∧ ∀ q ∈ pu1, h.get? q.1 = some q.2) ?_ (fun h hh => keep_of P hcal vf h hh) (evalArgs_kw2 rfl ?_ he)
  · rw [he]; rfl
  · refine evs_ok S NS Fm h2 I1 ?_
    intro vals ρ2 pu2 s2 p2 q2 vr2 I2 sm2
    refine kwAll_cons ?_
    refine S _ _ _ _ _ h3 A fenv env h₀ L Fm fr own ρ2 pu2 s2 _ I2 ?_
    intro y ρ3 pu3 s3 p3 q3 vy I3 sm3
    refine kwAll_nil ?_
    refine ⟨⟨I3.inK Fm.kin, fun q hq => I3.inPu q (q3 q (q2 q hq))⟩, ?_⟩
    exact C _ _ _ _ _ _ _ h4 A sc fenv env h₀ L Fm fr own ρ3 pu3 s3 fx ([] ++ vals) _ Q I3 (vf.mono (p2.trans p3) (q2.trans q3)) (vr2.mono p3 q3) ⟨y, rfl, vy⟩ (hQ.shift ((p1.trans p2).trans p3) ((q1.trans q2).trans q3) ((sm1.trans sm2).trans sm3))
end
end Mine

end
section -- P11
namespace Mine
open PySem PySem.W PySem.Calls PyProof.Rows

end Mine

end
section -- HeadW0
open PySem PySem.W PyProof.Rows
set_option maxHeartbeats 0
namespace Mine
noncomputable def withR (r : PySem.Str) : Program := { P with main := { P.main with body := P.main.body.take 56 ++ (PySem.Stmt.Assign (tgtOf st56) (PySem.Expr.Constant (PySem.Const.str r) (kOf st56).1 (kOf st56).2.1) (kOf st56).2.2 :: P.main.body.drop 57) } }
theorem withR_resv : withR resv = P := by
  unfold withR
  rw [← st56_is, ← cutAt default 56 P.main.body len_ok]
/-- the text, as the run of the top knows it -/
theorem resv_lit2 : ∃ s cs, resv = PySem.Str.ofString s ∧ s = String.ofList (' ' :: 'A' :: cs) := ⟨_, _, rfl, rfl⟩
theorem resv_cps : ∃ r : List Nat, resv = ⟨(32 :: 65 :: r).toArray⟩ := by
  obtain ⟨s, cs, h1, h2⟩ := resv_lit2
  refine ⟨cs.map Char.toNat, ?_⟩
  rw [h1, lit_cps s (' ' :: 'A' :: cs) h2]
  with_reducible simp only [List.map_cons]
  have e1 : Char.toNat ' ' = 32 := by decide
  have e2 : Char.toNat 'A' = 65 := by decide
  rw [e1, e2]
end Mine

end
section -- HF
open PySem PySem.W PyProof.Rows
set_option maxHeartbeats 400000
namespace Mine
/-! ## what is kept of the heap behind the top -/
set_option backward.match.sparseCases false in
noncomputable def notFreed (d : Data) : Bool := match d with
  | .freed => false
  | _ => true
noncomputable def kept (o : Obj) : Bool := noTabs [(0, o)] && notFreed o.data
noncomputable def kFrom : Nat → List Obj → Frag
  | _, [] => []
  | n, o :: r => match kept o with
    | true => (n, o) :: kFrom (n + 1) r
    | false => kFrom (n + 1) r
noncomputable def kpOf (h : Heap) : Frag := kFrom 0 h.objs.toList
theorem kFrom_mem : ∀ {l : List Obj} {n a : Nat} {o : Obj}, (a, o) ∈ kFrom n l → kept o = true ∧ ∃ i, a = n + i ∧ l[i]? = some o
  | [], _, _, _, h => by (first | exact Mine.ns h | exact Mine.ft h | exact Mine.sn h | exact Mine.tf h | cases h)
  | x :: r, n, a, o, h => by
    unfold kFrom at h
    (first | (revert h; refine mb (fun _ h => ?_) (fun _ h => ?_)) | split at h)
    · rename_i hk
      rcases List.mem_cons.mp h with e | h
      · (first | exact Mine.ns e | exact Mine.ft e | exact Mine.sn e | exact Mine.tf e | cases e)
        exact ⟨hk, 0, rfl, rfl⟩
      · obtain ⟨k, i, e1, e2⟩ := kFrom_mem h
        exact ⟨k, i + 1, by lia, e2⟩
    · obtain ⟨k, i, e1, e2⟩ := kFrom_mem h
      exact ⟨k, i + 1, by lia, e2⟩
theorem kpOf_in (h : Heap) : (kpOf h).In h := fun a o e => by
  obtain ⟨k, i, e1, e2⟩ := kFrom_mem (mem_of_lookupK e)
  have : h.objs[a]? = some o := by
    rw [← Array.getElem?_toList, e1, Nat.zero_add]; exact e2
  unfold Heap.get?
  rw [this]
  obtain ⟨oc, od, da, sl⟩ := o
  have k2 : notFreed da = true := (and2 k).2
  clear k e e1 e2 this
  cases da with
  | freed => exact ft k2
  | _ => rfl
theorem kpOf_no (h : Heap) : noTabs (kpOf h) = true :=
  List.all_eq_true.mpr fun p hm => List.all_eq_true.mp (and2 (kFrom_mem (a := p.1) (o := p.2) hm).1).1 (0, p.2) (List.mem_singleton_self _)
/-! ## closed values in it -/
noncomputable def isRef (a : Addr) : Value → Bool
  | .ref b => Nat.beq a b
  | _ => false
theorem isRef_ok {a : Addr} {v : Value} (h : isRef a v = true) : v = .ref a := by
  unfold isRef at h
  (first | (revert h; refine mb (fun _ h => ?_) (fun _ h => ?_)) | split at h)
  · rw [Nat.eq_of_beq_eq_true h]
  · (first | exact Mine.ns h | exact Mine.ft h | exact Mine.sn h | exact Mine.tf h | cases h)
set_option backward.match.sparseCases false in
noncomputable def wNone (v : Value) : Bool := match v with
  | .none => true
  | _ => false
set_option backward.match.sparseCases false in
noncomputable def wBool (v : Value) : Option Bool := match v with
  | .bool b => some b
  | _ => none
set_option backward.match.sparseCases false in
noncomputable def wInt (v : Value) : Option Int := match v with
  | .int i _ => some i
  | _ => none
noncomputable def wStr (v : Value) : Option Str := match v with
  | .str i _ => some i
  | _ => none
noncomputable def wRef (v : Value) : Option Addr := match v with
  | .ref a => some a
  | _ => none
theorem wNone_ok {v : Value} (h : wNone v = true) : v = .none := by (first | exact Mine.ns v | exact Mine.ft v | exact Mine.sn v | exact Mine.tf v | cases v) <;> first | rfl | exact ft h
theorem wBool_ok {v : Value} {b : Bool} (h : wBool v = some b) : v = .bool b := by (first | exact Mine.ns v | exact Mine.ft v | exact Mine.sn v | exact Mine.tf v | cases v) <;> first | exact congrArg _ (Option.some.inj h) | exact ns h
theorem wInt_ok {v : Value} {b : Int} (h : wInt v = some b) : ∃ t, v = .int b t := by (first | exact Mine.ns v | exact Mine.ft v | exact Mine.sn v | exact Mine.tf v | cases v) <;> first | exact ⟨_, congrFun (congrArg _ (Option.some.inj h)) _⟩ | exact ns h
theorem wStr_ok {v : Value} {b : Str} (h : wStr v = some b) : ∃ t, v = .str b t := by (first | exact Mine.ns v | exact Mine.ft v | exact Mine.sn v | exact Mine.tf v | cases v) <;> first | exact ⟨_, congrFun (congrArg _ (Option.some.inj h)) _⟩ | exact ns h
theorem wRef_ok {v : Value} {b : Addr} (h : wRef v = some b) : v = .ref b := by (first | exact Mine.ns v | exact Mine.ft v | exact Mine.sn v | exact Mine.tf v | cases v) <;> first | exact congrArg _ (Option.some.inj h) | exact ns h
set_option backward.match.sparseCases false in
noncomputable def oSeq (c : String) (o : Obj) : Option (Array Value × Nat) := match o.data with
  | .seq vs n => (match o.cls with
    | .type d => bif (d == c && o.dict.isNone) && o.slots.isEmpty then some (vs, n) else none
    | _ => none)
  | _ => none
theorem arr_nil {α : Type} {a : Array α} (h : a.isEmpty = true) : a = #[] := Array.isEmpty_iff.mp h
theorem oSeq_ok {c : String} {o : Obj} {vs : Array Value} {n : Nat} (h : oSeq c o = some (vs, n)) : o = { cls := .type c, data := .seq vs n } := by
  obtain ⟨oc, od, da, sl⟩ := o
  cases da with
  | seq ws m =>
    cases oc with
    | type d =>
      obtain ⟨q, e⟩ := bif_some h
      have e1 : ws = vs := congrArg Prod.fst e
      have e2 : m = n := congrArg Prod.snd e
      have e3 : sl = #[] := arr_nil (and2 q).2
      have e4 : od = none := Option.isNone_iff_eq_none.mp (and2 (and2 q).1).2
      rw [e1, e2, e3, e4, beq_iff_eq.mp (and2 (and2 q).1).1]
    | _ => exact ns h
  | _ => exact ns h
noncomputable def tupAt (K : Frag) (v : Value) : Option (List Value) := match wRef v with
  | some a => (match K.lookup a with
    | some o => (match oSeq "tuple" o with
      | some (vs, _) => some vs.toList
      | none => none)
    | none => none)
  | none => none
theorem tupAt_ok {K : Frag} {v : Value} {l : List Value} (h : tupAt K v = some l) : ∃ a n, v = .ref a ∧ K.lookup a = some (tupO l.toArray n) := by
  unfold tupAt at h
  cases h1 : wRef v with
  | none => rw [h1] at h; exact ns h
  | some a =>
    rw [h1] at h
    cases h2 : K.lookup a with
    | none => simp only [h2] at h; exact ns h
    | some o =>
      simp only [h2] at h
      cases h3 : oSeq "tuple" o with
      | none => rw [h3] at h; exact ns h
      | some q =>
        rw [h3] at h
        refine ⟨a, q.2, wRef_ok h1, ?_⟩
        rw [h2, oSeq_ok h3, ← Option.some.inj h]
mutual
noncomputable def vrB (K : Frag) (d : V) (v : Value) : Bool := match d with
  | .none => wNone v
  | .bool b => (match wBool v with | some c => b == c | none => false)
  | .int i => (match wInt v with | some c => decide (i = c) | none => false)
  | .str x => (match wStr v with | some c => seq x c | none => false)
  | .val w => (match wRef w with | some a => isRef a v | none => false)
  | .tup l => (match tupAt K v with
    | some vs => vrsB K l vs
    | none => false)
  | _ => false
noncomputable def vrsB (K : Frag) (l : List V) (vs : List Value) : Bool := match l with
  | [] => vs.isEmpty
  | d :: ds => (match vs with
    | v :: vs => vrB K d v && vrsB K ds vs
    | [] => false)
end
theorem vrB_all {R : Rc} {ρ : List Addr} {pu : Led} : (∀ d v, vrB R.K d v = true → VR R ρ pu d v) ∧ (∀ l vs, vrsB R.K l vs = true → VRs R ρ pu l vs) := by
  refine V_ind ?_ ?_ ?_ ?_ ?_ ?_ ?_ ?_ ?_ ?_ ?_ ?_ ?_ ?_ ?_ ?_ ?_
  · exact fun v h => wNone_ok h ▸ .none
  · intro b v h
    have h2 : (match wBool v with | some c => b == c | none => false) = true := h
    clear h
    cases e : wBool v with
    | none => rw [e] at h2; (first | exact Mine.ns h2 | exact Mine.ft h2 | exact Mine.sn h2 | exact Mine.tf h2 | cases h2)
    | some c => rw [e] at h2; rw [wBool_ok e, beq_iff_eq.mp h2]; exact .bool _
  · intro b v h
    have h2 : (match wInt v with | some c => decide (b = c) | none => false) = true := h
    clear h
    cases e : wInt v with
    | none => rw [e] at h2; (first | exact Mine.ns h2 | exact Mine.ft h2 | exact Mine.sn h2 | exact Mine.tf h2 | cases h2)
    | some c => rw [e] at h2; obtain ⟨t, rfl⟩ := wInt_ok e; rw [of_decide_eq_true h2]; exact .int _ _
  · intro b v h
    have h2 : (match wStr v with | some c => seq b c | none => false) = true := h
    clear h
    cases e : wStr v with
    | none => rw [e] at h2; (first | exact Mine.ns h2 | exact Mine.ft h2 | exact Mine.sn h2 | exact Mine.tf h2 | cases h2)
    | some c => rw [e] at h2; obtain ⟨t, rfl⟩ := wStr_ok e; rw [(seq_iff _ _).mp h2]; exact .str _ _
  · intro l ih v h
    have h2 : (match tupAt R.K v with | some vs => vrsB R.K l vs | none => false) = true := h
    clear h
    cases e : tupAt R.K v with
    | none => rw [e] at h2; (first | exact Mine.ns h2 | exact Mine.ft h2 | exact Mine.sn h2 | exact Mine.tf h2 | cases h2)
    | some c => rw [e] at h2; obtain ⟨a, n, rfl, q⟩ := tupAt_ok e; exact .tupK q (ih _ h2)
  · exact fun _ _ _ h => ft h
  · exact fun _ _ _ _ _ h => ft h
  · exact fun _ _ h => ft h
  · exact fun _ _ _ h => ft h
  · exact fun _ _ h => ft h
  · intro w v h
    have h2 : (match wRef w with | some a => isRef a v | none => false) = true := h
    clear h
    cases e : wRef w with
    | none => rw [e] at h2; (first | exact Mine.ns h2 | exact Mine.ft h2 | exact Mine.sn h2 | exact Mine.tf h2 | cases h2)
    | some c => rw [e] at h2; rw [isRef_ok h2, wRef_ok e]; exact .val rfl
  · exact fun _ _ h => ft h
  · exact fun _ _ _ h => ft h
  · exact fun _ _ _ _ h => ft h
  · exact fun _ h => ft h
  · intro vs h
    rw [List.isEmpty_iff.mp h]; exact .nil
  · intro d r ih1 ih2 vs h
    cases vs with
    | nil => exact ft h
    | cons v vs => exact .cons (ih1 _ (and2 h).1) (ih2 _ (and2 h).2)
theorem vrB_ok {R : Rc} {ρ : List Addr} {pu : Led} {d : V} {v : Value} (h : vrB R.K d v = true) : VR R ρ pu d v := vrB_all.1 d v h
/-! ## functions -/
set_option backward.match.sparseCases false in
noncomputable def vOf : Value → V
  | .none => .none
  | .bool b => .bool b
  | .int i _ => .int i
  | .str x _ => .str x
  | _ => .any
set_option backward.match.sparseCases false in
noncomputable def vDf : Value → Bool
  | .none => true
  | .bool _ => true
  | .int _ _ => true
  | .str _ _ => true
  | .ref _ => true
  | _ => false
theorem vOf_ok {R : Rc} {ρ : List Addr} {pu : Led} : ∀ {v : Value}, vDf v = true → VR R ρ pu (vOf v) v
  | .none, _ => .none
  | .bool _, _ => .bool _
  | .int _ _, _ => .int _ _
  | .str _ _, _ => .str _ _
  | .ref _, _ => .any rfl
theorem vOfs_ok {R : Rc} {ρ : List Addr} {pu : Led} : ∀ {vs : List Value}, vs.all vDf = true → VRs R ρ pu (vs.map vOf) vs
  | [], _ => .nil
  | v :: r, h => by
    rw [List.all_cons, Bool.and_eq_true] at h
    exact .cons (vOf_ok h.1) (vOfs_ok h.2)
noncomputable def oItems (d : Data) : Option (Array Value) := match d with
  | .seq vs _ => some vs
  | _ => none
theorem oItems_ok {d : Data} {vs : Array Value} (h : oItems d = some vs) : ∃ n, d = .seq vs n := by
  (first | exact Mine.ns d | exact Mine.ft d | exact Mine.sn d | exact Mine.tf d | cases d) <;> first | exact ⟨_, congrFun (congrArg _ (Option.some.inj h)) _⟩ | exact ns h
noncomputable def dsOf (K : Frag) (v : Value) : Option (List Value) := match wRef v with
  | some a => (match K.lookup a with
    | some o => (match oItems o.data with
      | some vs => some vs.toList
      | none => none)
    | none => none)
  | none => bif wNone v then some [] else none
theorem dsOf_ok {K : Frag} {v : Value} {ds : List Value} (e : dsOf K v = some ds) : ∃ it : Option (Array Value), (it.getD #[]).toList = ds ∧
    ∀ {s : Shared} {M : Model} {A : Around} {E : Value → Shared → Prop}, K.In s.heap → ∀ Q' : Option (Array Value) → Shared → Prop, Q' it s → wpAny M A (seqItems? v) Q' E s := by
  unfold dsOf at e
  cases h1 : wRef v with
  | none =>
    rw [h1] at e
    obtain ⟨q, rfl⟩ := bif_some e
    rw [wNone_ok q]
    exact ⟨none, rfl, fun _ Q' h => wpAny_pure h⟩
  | some a =>
    rw [h1] at e
    cases h2 : K.lookup a with
    | none => simp only [h2] at e; exact ns e
    | some o =>
      simp only [h2] at e
      cases h3 : oItems o.data with
      | none => rw [h3] at e; exact ns e
      | some q =>
        rw [h3] at e
        obtain ⟨n, h4⟩ := oItems_ok h3
        rw [wRef_ok h1]
        exact ⟨some q, Option.some.inj e, fun X Q' h => wpAny_seqItems (X _ _ h2) h4 h⟩
noncomputable abbrev LamTab := List (Addr × Addr × Str)
noncomputable def argsIf (p : Arguments) : Option (List Arg) := bif (p.posonlyargs.isEmpty && p.vararg.isNone) && (p.kwonlyargs.isEmpty && p.kwarg.isNone) then some p.args else none
theorem argsIf_ok {p : Arguments} {as : List Arg} (h : argsIf p = some as) : p = ⟨[], as, none, [], p.kw_defaults, none, p.defaults⟩ := by
  obtain ⟨q, rfl⟩ := bif_some h
  obtain ⟨po, ar, va, ko, kd, kw, df⟩ := p
  have h1 := List.isEmpty_iff.mp (and2 (and2 q).1).1
  have h2 := Option.isNone_iff_eq_none.mp (and2 (and2 q).1).2
  have h3 := List.isEmpty_iff.mp (and2 (and2 q).2).1
  have h4 := Option.isNone_iff_eq_none.mp (and2 (and2 q).2).2
  simp only [] at h1 h2 h3 h4
  rw [h1, h2, h3, h4]
set_option backward.match.sparseCases false in
noncomputable def stmtsIf (b : FuncBody) : Option (List Stmt) := match b with
  | .stmts l => some l
  | _ => none
theorem stmtsIf_ok {b : FuncBody} {l : List Stmt} (h : stmtsIf b = some l) : b = .stmts l := by
  (first | exact Mine.ns b | exact Mine.ft b | exact Mine.sn b | exact Mine.tf b | cases b) <;> first | exact congrArg _ (Option.some.inj h) | exact ns h
set_option backward.match.sparseCases false in
noncomputable def funcIf (d : Data) : Option FuncData := match d with
  | .func f => some f
  | _ => none
theorem funcIf_ok {d : Data} {f : FuncData} (h : funcIf d = some f) : d = .func f := by
  (first | exact Mine.ns d | exact Mine.ft d | exact Mine.sn d | exact Mine.tf d | cases d) <;> first | exact congrArg _ (Option.some.inj h) | exact ns h
noncomputable def frF (K : Frag) (lt : LamTab) (fd : FuncData) (as : List Arg) (body : List Stmt) (ds : List Value) : Option FR :=
  bif ((Nat.beq fd.globals mainGlobals && Nat.beq fd.builtins builtinsNs) && (fd.closure.isEmpty && codeIn K fd.code fd.qualname)) && (((!lamSc fd.scope || lt.any fun e => isRef e.1 fd.code && seq fd.qualname e.2.2)) && (ds.all vDf && Nat.ble ds.length as.length)) then
    some ⟨fd.name, as.map (·.arg), ds.map vOf, body, fd.scope⟩ else none
noncomputable def frAt (K : Frag) (lt : LamTab) (a : Addr) : Option FR :=
  (K.lookup a).bind fun o => (funcIf o.data).bind fun fd => (argsIf fd.params).bind fun as => (stmtsIf fd.body).bind fun body => (dsOf K fd.defaults).bind fun ds => frF K lt fd as body ds
noncomputable def nodupS : List Str → Bool
  | [] => true
  | x :: r => !(r.any (seq x)) && nodupS r
theorem nodupS_ok : ∀ {l : List Str}, nodupS l = true → l.Nodup
  | [], _ => List.nodup_nil
  | x :: r, h => by
    unfold nodupS at h
    rw [Bool.and_eq_true, Bool.not_eq_true', List.any_eq_false] at h
    refine List.nodup_cons.mpr ⟨fun hm => ?_, nodupS_ok h.2⟩
    exact h.1 x hm ((seq_iff x x).mpr rfl)
noncomputable def frOk (r : FR) : Bool := scOk r.sc && nodupS r.ps && r.ps.all fun x => match slook x r.sc.names with
  | some .local => true
  | some .cell => true
  | _ => false
theorem br_zip {R : Rc} {ρ : List Addr} {pu : Led} : ∀ (ns : List Str) {ds : List V} {vs : List Value}, VRs R ρ pu ds vs → BR R ρ pu (ns.zip vs) (zipL ns ds)
  | [], ds, vs, _ => by
    (first | exact Mine.ns ds | exact Mine.ft ds | exact Mine.sn ds | exact Mine.tf ds | cases ds) <;> exact .nil
  | _ :: _, _, _, .nil => .nil
  | _ :: ns, _, _, .cons h r => .cons h (br_zip ns r)
theorem binds_of {G : Glb} {as : List Arg} {ds : List Value} {name qual : Str} {kwd : List (Option Expr)} {dfs : List Expr} {body : List Stmt} {sc : Scope} {dV kV doc pm cd ct : Value} {an : Option Addr} (hn : (as.map (·.arg)).Nodup)
    (hds : dsOf G.R.K dV = some ds) (c5 : ds.all vDf = true) (l3 : ds.length ≤ as.length) {args : List V} {l : List (Str × V)} (hb : bindA ⟨name, as.map (·.arg), ds.map vOf, body, sc⟩ args = some l) {ρ : List Addr} {pu : Led} {vals : List Value} (hv : VRs G.R ρ pu args vals) :
    ∃ binds, (∀ s : Shared, G.R.K.In s.heap → BindsTo s (fnOf name qual ⟨[], as, none, [], kwd, none, dfs⟩ body sc dV kV doc pm an cd ct) ⟨vals, []⟩ binds) ∧ BR G.R ρ pu binds l := by
  unfold bindA at hb
  (first | (revert hb; refine mb (fun _ hb => ?_) (fun _ hb => ?_)) | split at hb)
  · rename_i hc2
    (first | exact Mine.ns hb | exact Mine.ft hb | exact Mine.sn hb | exact Mine.tf hb | cases hb)
    have l1 : args.length ≤ as.length := by simpa using Nat.le_of_ble_eq_true (and2 hc2).1
    have l2 : as.length ≤ args.length + ds.length := by simpa using Nat.le_of_ble_eq_true (and2 hc2).2
    have lv : args.length = vals.length := hv.length
    obtain ⟨it, i1, i2⟩ := dsOf_ok hds
    refine ⟨(as.map (·.arg)).zip (vals ++ ds.drop (ds.length - (as.length - vals.length))), fun s X M A E Q hQ => binds_plain (dfs := dfs) (kwd := kwd) rfl hn (lv ▸ l1) (lv ▸ l2) l3 i1 (fun Q' h => i2 X Q' h) hQ, ?_⟩
    have hb2 : BR G.R ρ pu ((as.map (·.arg)).zip (vals ++ ds.drop (ds.length - (as.length - vals.length)))) (zipL (as.map (·.arg)) (args ++ (ds.map vOf).drop ((ds.map vOf).length - ((as.map (·.arg)).length - args.length)))) := by
      refine br_zip _ (VRs.append hv ?_)
      rw [List.length_map, List.length_map, lv, ← List.map_drop]
      exact vOfs_ok (List.all_eq_true.mpr fun v hv => List.all_eq_true.mp c5 v (List.mem_of_mem_drop hv))
    exact hb2
  · (first | exact Mine.ns hb | exact Mine.ft hb | exact Mine.sn hb | exact Mine.tf hb | cases hb)
theorem fnOk_of {G : Glb} {a : Addr} {r : FR} (h1 : frOk r = true) (h2 : frAt G.R.K G.lamT a = some r) : FnOk G a r := by
  have hs := (and2 (and2 h1).1).1
  have hn := nodupS_ok (and2 (and2 h1).1).2
  have hk := (and2 h1).2
  clear h1
  refine ⟨hs, hn, fun x hx => ?_, ?_⟩
  · have := List.all_eq_true.mp hk x hx
    clear h2
    rw [slook_eq] at this
    (first | (revert this; refine mb (fun _ this => ?_) (fun _ this => ?_)) | split at this)
    · rename_i e; exact .inl e
    · rename_i e; exact .inr e
    · (first | exact Mine.ns this | exact Mine.ft this | exact Mine.sn this | exact Mine.tf this | cases this)
  · clear hk hs
    obtain ⟨⟨oc, od, da, osl⟩, hl, h3⟩ := bind2 h2
    clear h2
    obtain ⟨fd, e1, h4⟩ := bind2 h3
    clear h3
    have e1 : da = .func fd := funcIf_ok e1
    rw [e1] at hl
    clear e1
    obtain ⟨as, e2, h5⟩ := bind2 h4
    clear h4
    obtain ⟨body, e3, h6⟩ := bind2 h5
    clear h5
    obtain ⟨ds, hds, h2⟩ := bind2 h6
    clear h6
    have e2 := argsIf_ok e2
    have e3 := stmtsIf_ok e3
    obtain ⟨name, qual, params, bd, sc, gl, cl, dV, kV, doc, pm, an, cd, ct, bl⟩ := fd
    simp only [] at e2 e3 hds
    obtain ⟨c, rfl⟩ := bif_some h2
    clear h2
    have c1 := Nat.eq_of_beq_eq_true (and2 (and2 (and2 c).1).1).1
    have c2 := Nat.eq_of_beq_eq_true (and2 (and2 (and2 c).1).1).2
    have c3 := List.isEmpty_iff.mp (and2 (and2 (and2 c).1).2).1
    have c4 := (and2 (and2 (and2 c).1).2).2
    have c5 := and2 (and2 (and2 c).2).2
    have c6 := (and2 (and2 c).2).1
    simp only [] at c1 c2 c3 c4
    clear c
    refine ⟨name, qual, ⟨[], as, none, [], params.kw_defaults, none, params.defaults⟩, dV, kV, doc, pm, an, cd, ct, oc, od, osl, ?_, c4, fun hlm => ?_, fun args l hb ρ pu vals hv => binds_of hn hds c5.1 (Nat.le_of_ble_eq_true c5.2) hb hv⟩
    · rw [hl, e2, e3, c1, c2, c3]
    · have hlm' : lamSc sc = true := hlm
      simp only [hlm', Bool.not_true, Bool.false_or, List.any_eq_true] at c6
      obtain ⟨e, he, h⟩ := c6
      exact ⟨e, he, isRef_ok (and2 h).1, (seq_iff _ _).mp (and2 h).2⟩
/-! ## the tables of the defs with lambdas -/
noncomputable def lamTab : LamTab := [(636, 632, "_law_read"), (260, 256, "read_primary"), (44, 42, "key_rows")]
set_option backward.match.sparseCases false in
noncomputable def fieldsIf (o : Obj) : Option (Array Value) := match o.data with
  | .fields vs => (match o.cls with
    | .type c => bif c == "code" then some vs else none
    | _ => none)
  | _ => none
theorem fieldsIf_ok {o : Obj} {vs : Array Value} (h : fieldsIf o = some vs) : o = ⟨.type "code", o.dict, .fields vs, o.slots⟩ := by
  obtain ⟨oc, od, da, sl⟩ := o
  cases da with
  | fields ws =>
    cases oc with
    | type d => obtain ⟨q, rfl⟩ := bif_some h; rw [beq_iff_eq.mp q]
    | _ => exact ns h
  | _ => exact ns h
noncomputable def hdV (vs : Array Value) (b : Addr) : Bool := (match (vs[11]? : Option Value) with | some v => isRef b v | none => false) &&
    (((wStr (vs.getD 18 .none)).isSome && (wInt (vs.getD 7 .none)).isSome) && ((wBool (vs.getD 9 .none)).isSome && (wInt (vs.getD 10 .none)).isSome))
noncomputable def hdB (K : Frag) (e : Addr × Addr × Str) : Bool := !(Nat.beq e.1 e.2.1) && (match (K.lookup e.1).bind fieldsIf with
  | some vs => hdV vs e.2.1
  | none => false)
theorem isSome2 {α : Type} {x : Option α} (h : x.isSome = true) : ∃ a, x = some a := Option.isSome_iff_exists.mp h
theorem hdB_ok {K : Frag} {e : Addr × Addr × Str} (h : hdB K e = true) {hp : Heap} (X : K.In hp) : CodeHd hp e.1 e.2.1 := by
  obtain ⟨hne, h⟩ := and2 h
  cases q : (K.lookup e.1).bind fieldsIf with
  | none => simp only [q] at h; (first | exact Mine.ns h | exact Mine.ft h | exact Mine.sn h | exact Mine.tf h | cases h)
  | some vs =>
    simp only [q] at h
    obtain ⟨o, hl, q⟩ := bind2 q
    obtain ⟨h1, h2⟩ := and2 h
    cases hv : (vs[11]? : Option Value) with
    | none => simp only [hv] at h1; (first | exact Mine.ns h1 | exact Mine.ft h1 | exact Mine.sn h1 | exact Mine.tf h1 | cases h1)
    | some v =>
      simp only [hv] at h1
      have hv2 := isRef_ok h1
      subst hv2
      obtain ⟨a1, e1⟩ := isSome2 (and2 (and2 h2).1).1
      obtain ⟨a2, e2⟩ := isSome2 (and2 (and2 h2).1).2
      obtain ⟨a3, e3⟩ := isSome2 (and2 (and2 h2).2).1
      obtain ⟨a4, e4⟩ := isSome2 (and2 (and2 h2).2).2
      obtain ⟨b1, e1⟩ := wStr_ok e1
      obtain ⟨b2, e2⟩ := wInt_ok e2
      obtain ⟨b4, e4⟩ := wInt_ok e4
      rw [fieldsIf_ok q] at hl
      exact ⟨_, vs, a1, b1, a2, b2, a3, a4, b4, X _ _ hl, rfl, rfl, hv, by rw [Array.getD_eq_getD_getElem?, hv]; rfl, e1, e2, wBool_ok e3, e4, Nat.ne_of_beq_eq_false (Bool.not_eq_true' _ ▸ hne)⟩
noncomputable def tabO (o : Obj) : Bool := match o.data with
  | .fields ps => (ps.isEmpty && o.slots.isEmpty) && (wNone o.cls && o.dict.isNone)
  | _ => false
noncomputable def tabB (h : Heap) (P : Addr) : Bool := match h.get? P with
  | some o => tabO o
  | none => false
theorem tabB_ok {h : Heap} {P : Addr} (e : tabB h P = true) : h.get? P = some (tabObj #[]) := by
  unfold tabB at e
  cases q : h.get? P with
  | none => simp only [q] at e; (first | exact Mine.ns e | exact Mine.ft e | exact Mine.sn e | exact Mine.tf e | cases e)
  | some o =>
    simp only [q] at e
    obtain ⟨oc, od, da, sl⟩ := o
    cases da with
    | fields ps =>
      obtain ⟨e1, e2⟩ := and2 e
      have e3 := wNone_ok (and2 e2).1
      have e4 := Option.isNone_iff_eq_none.mp (and2 e2).2
      have e5 := arr_nil (and2 e1).1
      have e6 := arr_nil (and2 e1).2
      simp only [] at e3 e4 e6
      rw [e3, e4, e5, e6]
    | _ => exact ft e
/-! ## classes, names, tables of texts -/
noncomputable def fFn (K : Frag) (C f : Addr) (a : Str) : Bool := (match findIn K (.ref C) a with | some (some v) => isRef f v | _ => false) && isFn K (.ref f)
set_option tactic.hygienic true in
theorem fFn_ok {K : Frag} {C f : Addr} {a : Str} (h : fFn K C f a = true) : findIn K (.ref C) a = some (some (.ref f)) ∧ isFn K (.ref f) = true := by
  unfold fFn at h
  replace h := and2 h
  obtain ⟨h1, h2⟩ := h
  refine ⟨?_, h2⟩
  (first | (revert h1; refine mb (fun _ h1 => ?_) (fun _ h1 => ?_)) | split at h1)
  · rename_i v e
    rw [e, isRef_ok h1]
  · (first | exact Mine.ns h1 | exact Mine.ft h1 | exact Mine.sn h1 | exact Mine.tf h1 | cases h1)
noncomputable def fNo (K : Frag) (C : Addr) (a : Str) : Bool := match findIn K (.ref C) a with | some none => true | _ => false
theorem fNo_ok {K : Frag} {C : Addr} {a : Str} (h : fNo K C a = true) : findIn K (.ref C) a = some none := by
  unfold fNo at h
  (first | (revert h; refine mb (fun _ h => ?_) (fun _ h => ?_)) | split at h)
  · assumption
  · (first | exact Mine.ns h | exact Mine.ft h | exact Mine.sn h | exact Mine.tf h | cases h)
noncomputable def instB (K : Frag) (C : Addr) : Bool := plainGet K C "x" && hasDictIn K C && (findIn K (.ref C) "__setattr__" == some (some (.builtin "object.__setattr__"))) && plainOver K C
theorem instB_ok {K : Frag} {C : Addr} (h : instB K C = true) : InstOk K C := by
  unfold instB at h
  simp only [Bool.and_eq_true, beq_iff_eq] at h
  exact ⟨h.1.1.1, h.1.1.2, h.1.2, h.2⟩
noncomputable def classB (K : Frag) : Bool :=
  mtab.all (fun q => instB K q.1 && q.2.all fun r => fFn K q.1 r.2 r.1) &&
  atab.all (fun q => instB K q.1 && q.2.all fun a => fNo K q.1 a) &&
  ctab.all (fun q => makesIn K q.1 && fFn K q.1 q.2.1 "__init__" && keepIn K (.ref q.1)) &&
  ftab.all (fun q => keepIn K (.ref q.1))
/-- the names, but the long text -/
noncomputable def gtabN : List (Str × V) := gtab.filter fun q => !(seq q.1 "RESERVED")
noncomputable def gtB (K : Frag) (q : Str × V) : Bool := match q.2 with
  | .bi _ => (match nsIn K mainGlobals q.1 with | some none => true | _ => false)
  | d => (match nsIn K mainGlobals q.1 with | some (some v) => vrB K d v | _ => false)
/-- the long text's place -/
noncomputable def gtR (K : Frag) : Option Str := match nsIn K mainGlobals "RESERVED" with
  | some (some (.str s _)) => some s
  | _ => none
noncomputable def flatB : Value → Option PyData
  | .none => some .none
  | .int i _ => some (.int i)
  | .str x _ => some (.str x)
  | _ => none
noncomputable def rowsB : List DictEntry → List Str → Bool
  | [], [] => true
  | e :: es, k :: ks => (match e.key with | .str x _ => seq x k | _ => false) && (flatB e.val).isSome && rowsB es ks
  | _, _ => false
noncomputable def dkB (K : Frag) (q : Nat × List Str) : Bool := !(q.1 == sysModules) && match K.lookup q.1 with
  | some ⟨.type c, od, .dict es _, sl⟩ => c == "dict" && od.isNone && sl.isEmpty && rowsB es.toList q.2
  | _ => false
/-! ## all of it -/
noncomputable def yBool (s : Shared) : Bool := classB (kpOf s.heap) && gtabN.all (gtB (kpOf s.heap)) && lamTab.all (hdB (kpOf s.heap)) && dtab.all (dkB (kpOf s.heap)) && lamTab.all fun e => tabB s.heap e.2.1
noncomputable def yOf (s : Shared) : Bool × Option Str × List (Option FR) := (yBool s, gtR (kpOf s.heap), ftab.map fun q => frAt (kpOf s.heap) lamTab q.1)
noncomputable def yGood (r : Str) : Bool × Option Str × List (Option FR) := (true, some r, ftab.map fun q => some q.2)
end Mine

end
section -- HTW
open PySem PySem.W PyProof.Rows
set_option maxHeartbeats 0
namespace Mine
/-! ## the top's run over a tree -/
noncomputable def buildT : List Obj → BT → Nat → Option BT
  | [], t, _ => some t
  | o :: r, t, n => match ((t.ins n o).get n).isSome with
    | true => buildT r (t.ins n o) (n + 1)
    | false => none
theorem buildT_spec {life : Life} : ∀ {l : List Obj} {t t' : BT} {n : Nat}, buildT l t n = some t' → (absHeap t' (n + l.length) life).objs = (absHeap t n life).objs ++ l.toArray
  | [], t, t', n, h => by (first | exact Mine.ns h | exact Mine.ft h | exact Mine.sn h | exact Mine.tf h | cases h); simp
  | o :: r, t, t', n, h => by
    unfold buildT at h
    (first | (revert h; refine mb (fun _ h => ?_) (fun _ h => ?_)) | split at h)
    · rename_i hs
      have e := buildT_spec (life := life) h
      have e2 := congrArg Heap.objs (absHeap_ins (life := life) hs)
      rw [show n + (o :: r).length = n + 1 + r.length by simp; lia, e, e2]
      show (absHeap t n life).objs.push o ++ r.toArray = _
      simp
    · (first | exact Mine.ns h | exact Mine.ft h | exact Mine.sn h | exact Mine.tf h | cases h)
noncomputable def toT (s : Shared) : Option SharedT := match buildT s.heap.objs.toList .nil 0 with
  | some t => some ⟨t, s.heap.objs.toList.length, s.heap.life, s.gens, s.drawn, s.toks, s.os⟩
  | none => none
set_option tactic.hygienic true in
theorem toT_abs {s : Shared} {T : SharedT} (h : toT s = some T) : T.abs = s := by
  unfold toT at h
  (first | (revert h; refine mb (fun _ h => ?_) (fun _ h => ?_)) | split at h)
  · rename_i t hb
    (first | exact Mine.ns h | exact Mine.ft h | exact Mine.sn h | exact Mine.tf h | cases h)
    have e := buildT_spec (life := ({} : Life)) hb
    obtain ⟨⟨objs, life⟩, gens, drawn, toks, os⟩ := s
    unfold SharedT.abs
    simp only [Shared.mk.injEq, and_true]
    have e0 : (absHeap .nil 0 ({} : Life)).objs = #[] := rfl
    simp only [Nat.zero_add] at e
    rw [e0] at e
    show Heap.mk (absHeap t objs.toList.length ({} : Life)).objs life = _
    rw [e]
    simp
  · (first | exact Mine.ns h | exact Mine.ft h | exact Mine.sn h | exact Mine.tf h | cases h)
noncomputable def topRunT (tb : String → Option Builtin) (p : Program) (w : World) (n₀ : Nat) (ann : Option Value) : Nat → SharedT → Thread → Option SharedT
  | 0, _, _ => none
  | n + 1, s, t => match through t with
    | true => some s
    | false => match stepOk n₀ ann t with
      | false => none
      | true => match stepT (denote tb) p w s t with
        | some (s', t') => topRunT tb p w n₀ ann n s' t'
        | none => none
set_option tactic.hygienic true in
theorem topRunT_of {tb : String → Option Builtin} {p : Program} {w : World} {n₀ : Nat} {ann : Option Value} : ∀ {n : Nat} {s s' : SharedT} {t : Thread}, topRunT tb p w n₀ ann n s t = some s' → topRun tb p w n₀ ann n s.abs t = some s'.abs
  | 0, _, _, _, h => by (first | exact Mine.ns h | exact Mine.ft h | exact Mine.sn h | exact Mine.tf h | cases h)
  | n + 1, s, s', t, h => by
    unfold topRunT at h
    unfold topRun
    (first | (revert h; refine mb (fun _ h => ?_) (fun _ h => ?_)) | split at h)
    · rename_i ht
      (first | exact Mine.ns h | exact Mine.ft h | exact Mine.sn h | exact Mine.tf h | cases h)
      rw [ht]
    · rename_i ht
      rw [ht]
      simp only []
      (first | (revert h; refine mb (fun _ h => ?_) (fun _ h => ?_)) | split at h)
      · (first | exact Mine.ns h | exact Mine.ft h | exact Mine.sn h | exact Mine.tf h | cases h)
      · rename_i hk
        rw [hk]
        simp only []
        (first | (revert h; refine mb (fun _ h => ?_) (fun _ h => ?_)) | split at h)
        · rename_i s1 t1 hs
          rw [stepT_spec hs]
          exact topRunT_of h
        · (first | exact Mine.ns h | exact Mine.ft h | exact Mine.sn h | exact Mine.tf h | cases h)
/-- the same by the library's quick twins -/
noncomputable def topRunQ (p : Program) (w : World) (n₀ : Nat) (ann : Option Value) : Nat → SharedT → Thread → Option SharedT
  | 0, _, _ => none
  | n + 1, s, t => match through t with
    | true => some s
    | false => match PySem.W.Fast.tw6613529449190102663 n₀ ann t with
      | false => none
      | true => match PySem.W.Fast.tw10156331382660048174 (PySem.W.Fast.tw11892475500146522536 PySem.W.Fast.tw14364793385576792824) p w s t with
        | some (s', t') => topRunQ p w n₀ ann n s' t'
        | none => none
theorem topRunQ_eq {p : Program} {w : World} {n₀ : Nat} {ann : Option Value} : ∀ (n : Nat) (s : SharedT) (t : Thread), topRunT treeTable p w n₀ ann n s t = topRunQ p w n₀ ann n s t
  | 0, _, _ => rfl
  | n + 1, s, t => by
    unfold topRunT topRunQ
    rw [← PySem.W.Fast.te6613529449190102663, ← PySem.W.Fast.te10156331382660048174, ← PySem.W.Fast.te11892475500146522536, ← PySem.W.Fast.te14364793385576792824]
    split
    · rfl
    · split
      · rfl
      · split
        · exact topRunQ_eq n _ _
        · rfl
noncomputable def fenceQ (p : Program) (w : World) (N : Nat) : Option Shared :=
  (PySem.W.Fast.tw10274390034422433532 PySem.W.Fast.tw14364793385576792824 (opening p) w N (start (opening p)).1 (start (opening p)).2).bind (PySem.W.Fast.tw14289696077712309145 p)
theorem fenceQ_eq (p : Program) (w : World) (N : Nat) : fencedOpening treeTable p w N = fenceQ p w N := by
  unfold fenceQ
  rw [← PySem.W.Fast.te10274390034422433532, ← PySem.W.Fast.te14364793385576792824, ← PySem.W.Fast.te14289696077712309145]
  rfl
/-- the run, and what it starts from -/
noncomputable def runT (p : Program) (w : World) (N : Nat) : Option (Shared × SharedT) := match fenceQ p w N with
  | some s₀ => (match s₀.heap.isNs mainGlobals && s₀.gens.size == 0, toT s₀ with
    | true, some T₀ => (match topRunQ p w s₀.heap.objs.size (s₀.heap.nsMap mainGlobals "__annotations__") N T₀ (topStub p) with
      | some T => some (s₀, T)
      | none => none)
    | _, _ => none)
  | none => none
end Mine

end
section -- HE
open PySem PySem.W PyProof.Rows
set_option maxHeartbeats 0
namespace Mine
noncomputable def lawQ : Program := { P with main := { P.main with body := [P.main.body.getD 69 default] } }
noncomputable def lawLoose : List Str := P.boundNames.filter fun x => !(seq x "law")
/-- what the run of the top is asked -/
noncomputable def askT (p : Program) (w : World) := match runT p w 8800 with
  | some (s₀, T) => some (staticsOk (PySem.W.Fast.tw5923862056798008813 p.main.body) s₀.heap T.abs.heap && namesBound p T.abs.heap && gensDone T.abs && laidKept s₀.heap T.abs.heap,
      PySem.W.Fast.tw4187177175401517315 lawQ lawLoose (PySem.W.Fast.tw5923862056798008813 p.main.body) (fun _ => true) true T.abs, yOf T.abs)
  | none => none
theorem ask0 : ∀ (r : List Nat) (w : World), askT (withR ⟨(32 :: 65 :: r).toArray⟩) (w.withFollow "special-get-raises" false) = some (true, openGood lawQ lawLoose, yGood ⟨(32 :: 65 :: r).toArray⟩) := by intro r w; kernel_rfl
theorem ask1 : ∀ (r : List Nat) (w : World), askT (withR ⟨(32 :: 65 :: r).toArray⟩) (w.withFollow "special-get-raises" true) = some (true, openGood lawQ lawLoose, yGood ⟨(32 :: 65 :: r).toArray⟩) := by intro r w; kernel_rfl
end Mine

end
section -- HL
open PySem PySem.W PyProof.Rows
set_option maxHeartbeats 0
namespace Mine
set_option tactic.hygienic true in
theorem askT_ends {p : Program} {w : World} {a} (h : askT p w = some (true, a)) :
    (openEnds treeTable p w 8800).map (fun s => (openSeen lawQ lawLoose (importedModules p.main.body) (fun _ => true) true s, yOf s)) = some a := by
  unfold askT at h
  revert h
  split
  · rename_i s₀ T hr
    intro h
    unfold runT at hr
    revert hr
    split
    · rename_i s₁ hf
      split
      · rename_i T₀ hg hT
        split
        · rename_i T' hq
          intro hr
          (first | exact Mine.ns hr | exact Mine.ft hr | exact Mine.sn hr | exact Mine.tf hr | cases hr)
          rw [← topRunQ_eq] at hq
          have e1 := topRunT_of hq
          rw [toT_abs hT] at e1
          rw [← fenceQ_eq] at hf
          unfold openEnds
          rw [hf, Option.bind_some]
          unfold topFrom
          rw [hg]
          simp only []
          rw [e1, Option.bind_some]
          rw [← PySem.W.Fast.te5923862056798008813, ← PySem.W.Fast.te4187177175401517315] at h
          have h2 := Option.some.inj h
          have h3 := congrArg Prod.fst h2
          have h4 := congrArg Prod.snd h2
          simp only [] at h3 h4
          rw [h3]
          simp only [Option.map_some, h4]
        · exact fun hr => ns hr
      · exact fun hr => ns hr
    · exact fun hr => ns hr
  · exact fun h => ns h
theorem left_law : LeftO P lawQ lawLoose (fun _ => true) yOf (fun _ => yGood resv) 8800 := fun w => by
  obtain ⟨r, hr⟩ := resv_cps
  have e := World.withFollow_self w "special-get-raises"
  have hp : withR ⟨(32 :: 65 :: r).toArray⟩ = P := by rw [← hr]; exact withR_resv
  rw [hr]
  have a0 := askT_ends (ask0 r w)
  have a1 := askT_ends (ask1 r w)
  rw [hp] at a0 a1
  cases hb : w.params.followText "special-get-raises" <;> rw [hb] at e
  · rw [e] at a0; exact a0
  · rw [e] at a1; exact a1
end Mine

end
section -- HP
open PySem PySem.W PyProof.Rows
set_option maxHeartbeats 0
namespace Mine
structure Facts (K : Frag) : Prop where
  cls : classB K = true
  gt : gtabN.all (gtB K) = true
  hd : lamTab.all (hdB K) = true
  dk : dtab.all (dkB K) = true
  gr : gtR K = some resv
  fr : ftab.map (fun q => frAt K lamTab q.1) = ftab.map fun q => some q.2
theorem facts_of {s : Shared} (h : yOf s = yGood resv) : Facts (kpOf s.heap) ∧ lamTab.all (fun e => tabB s.heap e.2.1) = true := by
  unfold yOf yGood at h
  have h1 : yBool s = true := congrArg Prod.fst h
  have h2 := congrArg (fun x => x.2.1) h
  have h3 := congrArg (fun x => x.2.2) h
  unfold yBool at h1
  simp only [Bool.and_eq_true] at h1
  exact ⟨⟨h1.1.1.1.1, h1.1.1.1.2, h1.1.1.2, h1.1.2, h2, h3⟩, h1.2⟩
theorem alook_mem {α : Type} {a : Nat} {r : α} : ∀ {l : List (Nat × α)}, alook a l = some r → (a, r) ∈ l
  | [], h => by (first | exact Mine.ns h | exact Mine.ft h | exact Mine.sn h | exact Mine.tf h | cases h)
  | (b, x) :: l, h => by
    unfold alook at h
    (first | (revert h; refine mb (fun _ h => ?_) (fun _ h => ?_)) | split at h)
    · rename_i e
      (first | exact Mine.ns h | exact Mine.ft h | exact Mine.sn h | exact Mine.tf h | cases h)
      rw [← Nat.eq_of_beq_eq_true e]
      exact .head _
    · exact .tail _ (alook_mem h)
theorem frs_ok : (ftab.all fun q => frOk q.2) = true := by decide +kernel
theorem ft_ok {G : Glb} (F : Facts G.R.K) (hl : G.lamT = lamTab) {a : Addr} {r : FR} (h : alook a ftab = some r) : FnOk G a r := by
  have hm := alook_mem h
  have h1 := List.all_eq_true.mp frs_ok _ hm
  have h2 := List.map_inj_left.mp F.fr _ hm
  exact fnOk_of h1 (by rw [hl]; exact h2)
theorem slook_mem {α : Type} {x : Str} {r : α} : ∀ {l : List (Str × α)}, slook x l = some r → (x, r) ∈ l
  | [], h => by (first | exact Mine.ns h | exact Mine.ft h | exact Mine.sn h | exact Mine.tf h | cases h)
  | (y, v) :: l, h => by
    unfold slook at h
    (first | (revert h; refine mb (fun _ h => ?_) (fun _ h => ?_)) | split at h)
    · rename_i e
      (first | exact Mine.ns h | exact Mine.ft h | exact Mine.sn h | exact Mine.tf h | cases h)
      have e2 := (seq_iff _ _).mp e
      simp only [] at e2
      first | (rw [e2]; exact .head _) | (rw [← e2]; exact .head _)
    · exact .tail _ (slook_mem h)
theorem class_parts {K : Frag} (F : Facts K) :
    (∀ q ∈ mtab, InstOk K q.1 ∧ ∀ r ∈ q.2, findIn K (.ref q.1) r.1 = some (some (.ref r.2)) ∧ isFn K (.ref r.2) = true) ∧
    (∀ q ∈ atab, InstOk K q.1 ∧ ∀ a ∈ q.2, findIn K (.ref q.1) a = some none) ∧
    (∀ q ∈ ctab, makesIn K q.1 = true ∧ findIn K (.ref q.1) "__init__" = some (some (.ref q.2.1)) ∧ isFn K (.ref q.2.1) = true ∧ keepIn K (.ref q.1) = true) ∧
    (∀ q ∈ ftab, keepIn K (.ref q.1) = true) := by
  have h := F.cls
  unfold classB at h
  simp only [Bool.and_eq_true, List.all_eq_true] at h
  obtain ⟨⟨⟨h1, h2⟩, h3⟩, h4⟩ := h
  refine ⟨fun q hq => ⟨instB_ok (h1 q hq).1, fun r hr => fFn_ok ((h1 q hq).2 r hr)⟩, fun q hq => ⟨instB_ok (h2 q hq).1, fun a ha => fNo_ok ((h2 q hq).2 a ha)⟩, fun q hq => ?_, h4⟩
  have := h3 q hq
  have e := fFn_ok this.1.2
  exact ⟨this.1.1, e.1, e.2, this.2⟩
/-- the parameters keep the tables -/
structure ParT (p : Par) : Prop where
  ft : p.ft = par0.ft
  ci : p.ci = par0.ci
  mt : p.mt = par0.mt
  ck : p.ck = par0.ck
  sa : p.sa = par0.sa
  dk : p.dk = par0.dk
theorem code_ok {G : Glb} {p : Par} (T : ParT p) (F : Facts G.R.K) (hl : G.lamT = lamTab) : CodeOk G p := by
  refine ⟨fun a r h => ft_ok F hl ?_, fun a i fz h => ?_⟩
  · rw [T.ft] at h; exact h
  · rw [T.ci] at h
    obtain ⟨_, _, h3, _⟩ := class_parts F
    obtain ⟨a1, a2, a3, _⟩ := h3 _ (alook_mem h)
    exact ⟨a1, a2, a3⟩
theorem saOk {G : Glb} {p : Par} (T : ParT p) (F : Facts G.R.K) : SaOk G p := by
  obtain ⟨h1, h2, _, _⟩ := class_parts F
  refine ⟨fun C a h => ?_, fun C a f h => ?_⟩
  · rw [T.sa] at h
    have h : (match alook C atab with | some l => l.any (seq a) | none => false) = true := h
    (first | (revert h; refine mb (fun _ h => ?_) (fun _ h => ?_)) | split at h)
    · rename_i l hl
      obtain ⟨i, k⟩ := h2 _ (alook_mem hl)
      obtain ⟨x, hx, e⟩ := List.any_eq_true.mp h
      rw [(seq_iff _ _).mp e]
      exact ⟨i, k x hx⟩
    · (first | exact Mine.ns h | exact Mine.ft h | exact Mine.sn h | exact Mine.tf h | cases h)
  · rw [T.mt] at h
    have h : ((alook C mtab).bind fun l => slook a l) = some f := h
    obtain ⟨l, hl, e⟩ := Option.bind_eq_some_iff.mp h
    obtain ⟨i, k⟩ := h1 _ (alook_mem hl)
    obtain ⟨k1, k2⟩ := k _ (slook_mem e)
    exact ⟨i, k1, k2, rfl⟩
theorem ck_ok {p : Par} (T : ParT p) {K : Frag} (F : Facts K) : ∀ a, p.ck a = true → keepIn K (.ref a) = true := by
  intro a h
  rw [T.ck] at h
  have h : ((alook a ftab).isSome || (alook a ctab).isSome) = true := h
  obtain ⟨_, _, h3, h4⟩ := class_parts F
  rw [Bool.or_eq_true] at h
  rcases h with h | h
  · obtain ⟨r, hr⟩ := Option.isSome_iff_exists.mp h
    exact h4 _ (alook_mem hr)
  · obtain ⟨r, hr⟩ := Option.isSome_iff_exists.mp h
    exact (h3 _ (alook_mem hr)).2.2.2
set_option tactic.hygienic true in
theorem rowsB_ok : ∀ {es : List DictEntry} {ks : List Str}, rowsB es ks = true → ∃ D : List (Str × KTD.Dat), (∀ h : Heap, KTD.Rows (KTD.Dat.At h) es D) ∧ InK D ks
  | [], [], _ => ⟨[], fun _ => .nil, fun _ => rfl⟩
  | e :: es, k :: ks, hr => by
    unfold rowsB at hr
    replace hr := and3 hr
    obtain ⟨⟨h1, h2⟩, h3⟩ := hr
    obtain ⟨D, hD, hk⟩ := rowsB_ok h3
    (first | (revert h1; refine mb (fun _ h1 => ?_) (fun _ h1 => ?_)) | split at h1)
    · rename_i x t hx
      have := (seq_iff _ _).mp h1
      subst this
      obtain ⟨d, hd⟩ := Option.isSome_iff_exists.mp h2
      refine ⟨(x, .flat d) :: D, fun h => .cons hx ?_ (hD h), fun y => ?_⟩
      · show ∀ hp, Reads hp e.val d []
        unfold flatB at hd
        intro hp
        (first | (revert hd; refine mb (fun _ hd => ?_) (fun _ hd => ?_)) | split at hd)
        · rename_i e1; rw [e1]; (first | exact Mine.ns hd | exact Mine.ft hd | exact Mine.sn hd | exact Mine.tf hd | cases hd); exact .none
        · rename_i e1; rw [e1]; (first | exact Mine.ns hd | exact Mine.ft hd | exact Mine.sn hd | exact Mine.tf hd | cases hd); exact .int _ _
        · rename_i e1; rw [e1]; (first | exact Mine.ns hd | exact Mine.ft hd | exact Mine.sn hd | exact Mine.tf hd | cases hd); exact .str _ _
        · (first | exact Mine.ns hd | exact Mine.ft hd | exact Mine.sn hd | exact Mine.tf hd | cases hd)
      · show (decide (y = x) || KTD.inKeys y D) = (seq y x || ks.any (seq y))
        rw [hk y, show decide (y = x) = seq y x by rw [Bool.eq_iff_iff, decide_eq_true_eq, seq_iff]]
    · (first | exact Mine.ns h1 | exact Mine.ft h1 | exact Mine.sn h1 | exact Mine.tf h1 | cases h1)
  | [], _ :: _, hr => by (first | exact Mine.ns hr | exact Mine.ft hr | exact Mine.sn hr | exact Mine.tf hr | cases hr)
  | _ :: _, [], hr => by (first | exact Mine.ns hr | exact Mine.ft hr | exact Mine.sn hr | exact Mine.tf hr | cases hr)
set_option tactic.hygienic true in
theorem dkOk {G : Glb} {p : Par} (T : ParT p) (F : Facts G.R.K) : DkOk G p := by
  intro d ks h
  rw [T.dk] at h
  have hm := alook_mem (show alook d dtab = some ks from h)
  have hb := List.all_eq_true.mp F.dk _ hm
  unfold dkB at hb
  rw [Bool.and_eq_true, Bool.not_eq_true'] at hb
  obtain ⟨h1, h2⟩ := hb
  (first | (revert h2; refine mb (fun _ h2 => ?_) (fun _ h2 => ?_)) | split at h2)
  · rename_i c od es n sl hl
    simp only [Bool.and_eq_true, beq_iff_eq, Option.isNone_iff_eq_none] at h2
    obtain ⟨⟨⟨e1, e2⟩, e3⟩, e4⟩ := h2
    obtain ⟨D, hD, hk⟩ := rowsB_ok e4
    exact ⟨D, fun h X => ⟨h1, _, es, n, X _ _ hl, ⟨by rw [e1], e2, arr_nil e3⟩, rfl, hD h⟩, hk⟩
  · (first | exact Mine.ns h2 | exact Mine.ft h2 | exact Mine.sn h2 | exact Mine.tf h2 | cases h2)
/-- the code tables -/
theorem lamT_ok {G : Glb} (F : Facts G.R.K) (hl : G.lamT = lamTab) (ht : G.R.TB = tbD G.lamT) : LamT G := by
  refine ⟨ht, fun e he h X => ?_, by rw [hl]; decide⟩
  rw [hl] at he
  exact hdB_ok (List.all_eq_true.mp F.hd e he) X
/-! ## the names -/
theorem boot_bi : ∀ q ∈ gtabN, ∀ k, q.2 = .bi k → bootBuiltins q.1 = some (biV k) ∧ q.1 ≠ "__name__" := by
  have h : (gtabN.all fun q => match q.2 with
    | .bi k => (match bootBuiltins q.1 with | some v => v == biV k | none => false) && !(q.1 == "__name__")
    | _ => true) = true := by decide +kernel
  intro q hq k hk
  have := List.all_eq_true.mp h q hq
  rw [hk] at this
  simp only [Bool.and_eq_true, Bool.not_eq_true', beq_eq_false_iff_ne] at this
  refine ⟨?_, this.2⟩
  have := this.1
  (first | (revert this; refine mb (fun _ this => ?_) (fun _ this => ?_)) | split at this)
  · rename_i v e
    rw [e, beq_iff_eq.mp this]
  · (first | exact Mine.ns this | exact Mine.ft this | exact Mine.sn this | exact Mine.tf this | cases this)
set_option tactic.hygienic true in
theorem gt_ok {R : Rc} (F : Facts R.K) {x : Str} {d : V} (h : slook x gtab = some d) :
    (∃ v, nsIn R.K mainGlobals x = some (some v) ∧ ∀ ρ pu, VR R ρ pu d v) ∨
    (nsIn R.K mainGlobals x = some none ∧ x ≠ "__name__" ∧ ∃ v, bootBuiltins x = some v ∧ ∀ ρ pu, VR R ρ pu d v) := by
  by_cases hx : seq x "RESERVED" = true
  · have e := (seq_iff _ _).mp hx
    subst e
    have hd : d = .str resv := by
      have e2 : slook ("RESERVED" : Str) gtab = some (V.str resv) := by rfl
      rw [e2] at h
      exact (Option.some.inj h).symm
    subst hd
    have hg := F.gr
    unfold gtR at hg
    (first | (revert hg; refine mb (fun _ hg => ?_) (fun _ hg => ?_)) | split at hg)
    · rename_i s t e
      (first | exact Mine.ns hg | exact Mine.ft hg | exact Mine.sn hg | exact Mine.tf hg | cases hg)
      exact .inl ⟨_, e, fun _ _ => .str _ _⟩
    · (first | exact Mine.ns hg | exact Mine.ft hg | exact Mine.sn hg | exact Mine.tf hg | cases hg)
  · have hm : (x, d) ∈ gtabN := List.mem_filter.mpr ⟨slook_mem h, by simpa using hx⟩
    have hb := List.all_eq_true.mp F.gt _ hm
    have hbo := boot_bi _ hm
    unfold gtB at hb
    (first | (revert hb; refine mb (fun _ hb => ?_) (fun _ hb => ?_)) | split at hb)
    · rename_i k hk
      simp only [] at hk
      obtain ⟨b1, b2⟩ := hbo k hk
      right
      (first | (revert hb; refine mb (fun _ hb => ?_) (fun _ hb => ?_)) | split at hb)
      · rename_i e
        subst hk
        exact ⟨e, b2, _, b1, fun _ _ => .bi _⟩
      · (first | exact Mine.ns hb | exact Mine.ft hb | exact Mine.sn hb | exact Mine.tf hb | cases hb)
    · left
      (first | (revert hb; refine mb (fun _ hb => ?_) (fun _ hb => ?_)) | split at hb)
      · rename_i v e
        exact ⟨v, e, fun ρ pu => vrB_ok hb⟩
      · (first | exact Mine.ns hb | exact Mine.ft hb | exact Mine.sn hb | exact Mine.tf hb | cases hb)
theorem parOk {G : Glb} {p : Par} (T : ParT p) (hg : p.gt = par0.gt) (F : Facts G.R.K) (ok : RcOk G.R) : ParOk G p :=
  ⟨ok, ck_ok T F, fun x d h => gt_ok F (by rw [hg] at h; exact h)⟩
end Mine

end
section -- HK
open PySem PySem.W PyProof.Rows
set_option maxHeartbeats 0
namespace Mine
/-- what is fixed from the call of the law on -/
structure Base where
  K : Frag
  w : World
  loose : List Str
  mean : ExcName → Option Value
  mg : Str → Option Value
  mb : Str → Option Value
  pool : Nat → List Int
/-- the pool: the only abstract object -/
noncomputable def thP (pool : Nat → List Int) (t : Nat) (d : List V) (a : Addr) (ch : Led) (_ρ : List Addr) (_pu : Led) : Prop :=
  t = 0 ∧ ∃ j : Nat, d = [.int j] ∧ ∃ vs : List Value, ∃ n : Nat, ch = [(a, listOf vs.toArray n)] ∧ IntsAre vs (pool j)
noncomputable def rcB (B : Base) (τ : Nat → V) : Rc := ⟨B.K, τ, thP B.pool, tbD lamTab⟩
noncomputable def glb (B : Base) (τ : Nat → V) : Glb := ⟨P, B.w, rcB B τ, topProg, B.loose, B.mean, B.mg, B.mb, lamTab⟩
theorem rcB_ok (B : Base) (τ : Nat → V) : RcOk (rcB B τ) := ⟨fun _ _ h => h, fun h T => tbD_mono h T⟩
/-- the numbers' texts -/
noncomputable def StrFx (G : Glb) (p : Par) : Prop := ∀ o r, p.fx 5 [o] = some r → ∀ ρ pu x, VR G.R ρ pu o x → ∃ (i : Int) (t : Tok), x = .int i t ∧ i.natAbs.log2 < 1920 ∧ ∀ t', VR G.R ρ pu r (.str (toString i) t')
theorem prims {B : Base} {τ : Nat → V} {p : Par} (F : Facts B.K) (T : ParT p) (hg : p.gt = par0.gt) (tau : TauOk (rcB B τ)) (fx : FxOk (glb B τ) p) (hstr : StrFx (glb B τ) p) (sg : SgOk (glb B τ) p) : Prims (glb B τ) p :=
  have PO : ParOk (glb B τ) p := parOk (G := glb B τ) T hg F (rcB_ok B τ)
  have SA : SaOk (glb B τ) p := saOk (G := glb B τ) T F
  { par := PO
    cmp := cmp_ok tau fx (dkOk (G := glb B τ) T F)
    att := att_ok SA
    set := set_ok SA
    met := met_ok SA
    sub := sub_ok fx
    bin := bin_ok PO
    lam := lam_ok PO (lamT_ok (G := glb B τ) F rfl rfl)
    key := key_ok PO
    bi := bi_ok PO fx hstr
    sg := sg
    cl := clos_ok
    code := code_ok (G := glb B τ) T F rfl }
/-- the evaluator is right -/
theorem right {B : Base} {τ : Nat → V} {p : Par} (F : Facts B.K) (T : ParT p) (hg : p.gt = par0.gt) (tau : TauOk (rcB B τ)) (fx : FxOk (glb B τ) p) (hstr : StrFx (glb B τ) p) (sg : SgOk (glb B τ) p) (n d : Nat) : Snd (glb B τ) d (ev p n d) :=
  snd_ev (prims F T hg tau fx hstr sg) n d
end Mine

end
section -- T1
open PySem PySem.W PyProof.Rows
set_option maxHeartbeats 0
namespace Mine
/-! ## values without names and places -/
mutual
noncomputable def clV : V → Bool
  | .tup l => clVs l
  | .lst l => clVs l
  | .obj _ _ vs => clVs vs
  | .nm _ => false
  | .off _ _ => false
  | .loc _ => false
  | _ => true
noncomputable def clVs : List V → Bool
  | [] => true
  | d :: r => clV d && clVs r
end
mutual
/-- a value read with other names and places -/
noncomputable def trV (pl : Nat → V) (τ : Nat → V) : V → V
  | .tup l => .tup (trVs pl τ l)
  | .lst l => .lst (trVs pl τ l)
  | .obj C ns vs => .obj C ns (trVs pl τ vs)
  | .nm k => τ k
  | .off k d => (match τ k with
    | .int i => .int (i + d)
    | _ => .any)
  | .loc n => pl n
  | d => d
noncomputable def trVs (pl : Nat → V) (τ : Nat → V) : List V → List V
  | [] => []
  | d :: r => trV pl τ d :: trVs pl τ r
end
section
variable {R R' : Rc} {ρ ρ' : List Addr} {pu : Led} {pl : Nat → V}
theorem VR_clo_ind (hK : R'.K = R.K) : (∀ d v, VR R' ρ' pu d v → clV d = true → VR R ρ pu d v) ∧ (∀ ds vs, VRs R' ρ' pu ds vs → clVs ds = true → VRs R ρ pu ds vs) ∧ (∀ ns ds es, VRd R' ρ' pu ns ds es → clVs ds = true → VRd R ρ pu ns ds es) :=
  VR_ind (fun _ => .none) (fun b _ => .bool b) (fun i t _ => .int i t) (fun x t _ => .str x t) (fun h r c => .tup h (r c)) (fun h r c => .tupK (hK ▸ h) (r c)) (fun h r c => .lst h (r c)) (fun h k r c => .obj h k (r c))
    (fun _ _ c => ft c) (fun _ _ c => ft c) (fun _ c => ft c) (fun h _ => .val h) (fun k _ => .bi k) (fun h _ => .rng h)
    (fun h _ => by cases h with | clo h k a b c d => exact .clo h k a b c d) (fun h _ => .any h) (fun _ => .nil) (fun r q c => .cons (r (and2 c).1) (q (and2 c).2)) (fun _ => .nil) (fun k r q c => .cons k (r (and2 c).1) (q (and2 c).2))
theorem VR.clo_ind (hK : R'.K = R.K) {d : V} {v : Value} (c : clV d = true) (h : VR R' ρ' pu d v) : VR R ρ pu d v := (VR_clo_ind hK).1 _ _ h c
theorem VR_tr (hK : R'.K = R.K) (hc : ∀ k, clV (R'.τ k) = true) (hl : ∀ n a, ρ'[n]? = some a → VR R ρ pu (pl n) (.ref a)) : (∀ d v, VR R' ρ' pu d v → VR R ρ pu (trV pl R'.τ d) v) ∧ (∀ ds vs, VRs R' ρ' pu ds vs → VRs R ρ pu (trVs pl R'.τ ds) vs) ∧ (∀ ns ds es, VRd R' ρ' pu ns ds es → VRd R ρ pu ns (trVs pl R'.τ ds) es) :=
  VR_ind .none .bool .int .str (fun h r => .tup h r) (fun h r => .tupK (hK ▸ h) r) (fun h r => .lst h r) (fun h k r => .obj h k r)
    (fun h _ => VR.clo_ind hK (hc _) h) (fun {k i d} t h => by
      show VR R ρ pu (match R'.τ k with | .int i => .int (i + d) | _ => .any) _
      rw [h]; exact .int _ _) (fun h => hl _ _ h) (fun h => .val h) .bi (fun h => .rng h)
    (fun h => by cases h with | clo h k a b c d => exact .clo h k a b c d) (fun h => .any h) .nil (fun r q => .cons r q) .nil (fun k r q => .cons k r q)
theorem VR.tr (hK : R'.K = R.K) (hc : ∀ k, clV (R'.τ k) = true) (hl : ∀ n a, ρ'[n]? = some a → VR R ρ pu (pl n) (.ref a)) {d : V} {v : Value} (h : VR R' ρ' pu d v) : VR R ρ pu (trV pl R'.τ d) v := (VR_tr hK hc hl).1 _ _ h
theorem VRs.tr (hK : R'.K = R.K) (hc : ∀ k, clV (R'.τ k) = true) (hl : ∀ n a, ρ'[n]? = some a → VR R ρ pu (pl n) (.ref a)) {ds : List V} {vs : List Value} (h : VRs R' ρ' pu ds vs) : VRs R ρ pu (trVs pl R'.τ ds) vs := (VR_tr hK hc hl).2.1 _ _ h
theorem VRd.tr (hK : R'.K = R.K) (hc : ∀ k, clV (R'.τ k) = true) (hl : ∀ n a, ρ'[n]? = some a → VR R ρ pu (pl n) (.ref a)) {ns : List Str} {ds : List V} {es : List DictEntry} (h : VRd R' ρ' pu ns ds es) : VRd R ρ pu ns (trVs pl R'.τ ds) es := (VR_tr hK hc hl).2.2 _ _ _ h
end
mutual
/-- the places are among the first m, the offsets are of numbers -/
noncomputable def okV (m : Nat) (τ : Nat → V) : V → Bool
  | .tup l => okVs m τ l
  | .lst l => okVs m τ l
  | .obj _ _ vs => okVs m τ vs
  | .off k _ => (match τ k with
    | .int _ => true
    | _ => false)
  | .loc n => Nat.blt n m
  | _ => true
noncomputable def okVs (m : Nat) (τ : Nat → V) : List V → Bool
  | [] => true
  | d :: r => okV m τ d && okVs m τ r
end
section
variable {R R' : Rc} {ρ ρ' : List Addr} {pu : Led} {pl : Nat → V} {m : Nat}
theorem VR_rt (hK : R.K = R'.K) (hc : ∀ k, clV (R'.τ k) = true) (hl : ∀ n, n < m → ∀ v, VR R ρ pu (pl n) v → VR R' ρ' pu (.loc n) v) :
    (∀ d v, okV m R'.τ d = true → VR R ρ pu (trV pl R'.τ d) v → VR R' ρ' pu d v) ∧
    (∀ ds, okVs m R'.τ ds = true → (∀ vs, VRs R ρ pu (trVs pl R'.τ ds) vs → VRs R' ρ' pu ds vs) ∧ (∀ ns es, VRd R ρ pu ns (trVs pl R'.τ ds) es → VRd R' ρ' pu ns ds es)) := by
  refine V_ind ?_ ?_ ?_ ?_ ?_ ?_ ?_ ?_ ?_ ?_ ?_ ?_ ?_ ?_ ?_ ?_ ?_
  · intro v _ h; rw [VR.none_inv h]; exact .none
  · intro b v _ h; rw [VR.bool_inv h]; exact .bool b
  · intro i v _ h; obtain ⟨t, rfl⟩ := VR.int_inv h; exact .int i t
  · intro x v _ h; obtain ⟨t, rfl⟩ := VR.str_inv h; exact .str x t
  · intro l ih v o h
    obtain ⟨a, vs, n, rfl, q, r⟩ := VR.tupI h
    cases q with
    | inl q => exact .tup q ((ih o).1 _ r)
    | inr q => exact .tupK (hK ▸ q) ((ih o).1 _ r)
  · intro l ih v o h
    obtain ⟨a, vs, n, rfl, q, r⟩ := VR.lst_inv h
    exact .lst q ((ih o).1 _ r)
  · intro C ns l ih v o h
    obtain ⟨x, dx, es, n, rfl, q, k, r⟩ := VR.obj_inv h
    exact .obj q k ((ih o).2 _ _ r)
  · exact fun k v _ h => .nm (VR.clo_ind hK (hc k) h)
  · intro k e v o h
    have h : VR R ρ pu (match R'.τ k with | .int i => .int (i + e) | _ => .any) v := h
    have o : (match R'.τ k with | .int _ => true | _ => false) = true := o
    cases e1 : R'.τ k with
    | int i =>
      rw [e1] at h
      obtain ⟨t, rfl⟩ := VR.int_inv h
      exact .off t e1
    | _ => rw [e1] at o; (first | exact Mine.ns o | exact Mine.ft o | exact Mine.sn o | exact Mine.tf o | cases o)
  · exact fun n v o h => hl n (Nat.blt_eq.mp o) v h
  · intro w v _ h; obtain ⟨rfl, q⟩ := VR.inv h; exact .val q
  · intro k v _ h; rw [VR.bi_inv h]; exact .bi k
  · intro i j v _ h; obtain ⟨a, t, u, w, rfl, q⟩ := VR.rng_inv h; exact .rng q
  · intro ps b sc v _ h
    obtain ⟨f, c', oc, fvs, tq, qual, args, pm, ctv, rfl, h1, k, a, b, c, d⟩ := VR.inv h
    exact .clo h1 k a b c d
  · exact fun v _ h => .any (VR.any_inv h)
  · intro _
    refine ⟨fun vs h => ?_, fun ns es h => ?_⟩
    · rw [VRs.nil_inv h]; exact .nil
    · have h : VRd R ρ pu ns [] es := h
      (first | exact Mine.ns h | exact Mine.ft h | exact Mine.sn h | exact Mine.tf h | cases h); exact .nil
  · intro d r ih1 ih2 o
    refine ⟨fun vs h => ?_, fun ns es h => ?_⟩
    · obtain ⟨v, ws, rfl, a, b⟩ := VRs.cons_inv h
      exact .cons (ih1 _ (and2 o).1 a) ((ih2 (and2 o).2).1 _ b)
    · obtain ⟨n, ns', e, es', t, rfl, rfl, k, a, b⟩ := VRd.cons_inv h
      exact .cons k (ih1 _ (and2 o).1 a) ((ih2 (and2 o).2).2 _ _ b)
theorem VR.rt (hK : R.K = R'.K) (hc : ∀ k, clV (R'.τ k) = true) (hl : ∀ n, n < m → ∀ v, VR R ρ pu (pl n) v → VR R' ρ' pu (.loc n) v) (d : V) {v : Value} (o : okV m R'.τ d = true) (h : VR R ρ pu (trV pl R'.τ d) v) : VR R' ρ' pu d v := (VR_rt hK hc hl).1 d v o h
theorem VRs.rt (hK : R.K = R'.K) (hc : ∀ k, clV (R'.τ k) = true) (hl : ∀ n, n < m → ∀ v, VR R ρ pu (pl n) v → VR R' ρ' pu (.loc n) v) (ds : List V) {vs : List Value} (o : okVs m R'.τ ds = true) (h : VRs R ρ pu (trVs pl R'.τ ds) vs) : VRs R' ρ' pu ds vs := ((VR_rt hK hc hl).2 ds o).1 vs h
theorem VRd.rt (hK : R.K = R'.K) (hc : ∀ k, clV (R'.τ k) = true) (hl : ∀ n, n < m → ∀ v, VR R ρ pu (pl n) v → VR R' ρ' pu (.loc n) v) (ns : List Str) (ds : List V) {es : List DictEntry} (o : okVs m R'.τ ds = true) (h : VRd R ρ pu ns (trVs pl R'.τ ds) es) : VRd R' ρ' pu ns ds es := ((VR_rt hK hc hl).2 ds o).2 ns es h
end
end Mine

end
section -- T2
open PySem PySem.W PyProof.Rows
set_option maxHeartbeats 0
namespace Mine
/-! ## objects, pointwise -/
noncomputable def trM (pl : Nat → V) (τ : Nat → V) : MO → MO
  | .lst l => .lst (trVs pl τ l)
  | .obj C ns vs => .obj C ns (trVs pl τ vs)
  | m => m
noncomputable def okM (m : Nat) (τ : Nat → V) : MO → Bool
  | .lst l => okVs m τ l
  | .obj _ _ vs => okVs m τ vs
  | _ => true
section
variable {B : Base} {τ τ' : Nat → V} {ρ ρ' : List Addr} {pu : Led} {pl : Nat → V} {m : Nat}
theorem MOR.tr (hc : ∀ k, clV (τ' k) = true) (hl : ∀ n a, ρ'[n]? = some a → VR (rcB B τ) ρ pu (pl n) (.ref a)) {o : MO} {a : Addr} {c : Led} (h : MOR (rcB B τ') ρ' pu o a c) : MOR (rcB B τ) ρ pu (trM pl τ' o) a c := by
  cases h with
  | lst h => exact .lst (VRs.tr (R' := rcB B τ') (R := rcB B τ) rfl hc hl h)
  | obj h => exact .obj (VRd.tr (R' := rcB B τ') (R := rcB B τ) rfl hc hl h)
  | abs h => exact .abs h
  | dead => exact .dead
theorem MOR.rt (hc : ∀ k, clV (τ' k) = true) (hl : ∀ n, n < m → ∀ v, VR (rcB B τ) ρ pu (pl n) v → VR (rcB B τ') ρ' pu (.loc n) v) {o : MO} {a : Addr} {c : Led} (ok : okM m τ' o = true) (h : MOR (rcB B τ) ρ pu (trM pl τ' o) a c) : MOR (rcB B τ') ρ' pu o a c := by
  cases o with
  | lst l =>
    have h : MOR (rcB B τ) ρ pu (.lst (trVs pl τ' l)) a c := h
    obtain ⟨_, _, rfl, h1⟩ := h.lst_inv; clear h
    exact .lst (VRs.rt (R' := rcB B τ') (R := rcB B τ) rfl hc hl l ok h1)
  | obj C ns l =>
    have h : MOR (rcB B τ) ρ pu (.obj C ns (trVs pl τ' l)) a c := h
    obtain ⟨_, _, _, rfl, h1⟩ := h.obj_inv; clear h
    exact .obj (VRd.rt (R' := rcB B τ') (R := rcB B τ) rfl hc hl ns l ok h1)
  | abs t d =>
    have h : MOR (rcB B τ) ρ pu (.abs t d) a c := h
    have h1 := h.abs_inv
    exact .abs h1
  | dead =>
    have h : MOR (rcB B τ) ρ pu .dead a c := h
    obtain rfl := h.dead_inv; clear h
    exact .dead
theorem MORs.of {R : Rc} : ∀ {ms : List MO} {as : List Addr} {cs : List Led}, as.length = ms.length → cs.length = ms.length →
    (∀ (n : Nat) (o : MO) (a : Addr) (c : Led), ms[n]? = some o → as[n]? = some a → cs[n]? = some c → MOR R ρ pu o a c) → MORs R ρ pu ms as cs
  | [], [], [], _, _, _ => .nil
  | o :: ms, a :: as, c :: cs, h1, h2, h => .cons (h 0 o a c rfl rfl rfl) (MORs.of (by simpa using h1) (by simpa using h2) fun n o a c e1 e2 e3 => h (n + 1) o a c e1 e2 e3)
  | [], _ :: _, _, h1, _, _ => by simp at h1
  | [], [], _ :: _, _, h2, _ => by simp at h2
  | _ :: _, [], _, h1, _, _ => by simp at h1
  | _ :: _, _ :: _, [], _, h2, _ => by simp at h2
theorem MORs.get {R : Rc} {ms : List MO} {as : List Addr} {cs : List Led} (h : MORs R ρ pu ms as cs) {n : Nat} {o : MO} {a : Addr} {c : Led} (e1 : ms[n]? = some o) (e2 : as[n]? = some a) (e3 : cs[n]? = some c) : MOR R ρ pu o a c := by
  obtain ⟨a', c', f2, f3, f, _⟩ := h.at e1
  rw [e2] at f2; rw [e3] at f3
  (first | exact Mine.ns f2 | exact Mine.ft f2 | exact Mine.sn f2 | exact Mine.tf f2 | cases f2); (first | exact Mine.ns f3 | exact Mine.ft f3 | exact Mine.sn f3 | exact Mine.tf f3 | cases f3)
  exact f
end
/-! ## the chunks at some places -/
/-- the list with holes -/
noncomputable def holes (ps : List Nat) (cs : List Led) : List Led := ps.foldl (fun c j => c.set j []) cs
noncomputable def takeAt {α : Type} (d : α) (ps : List Nat) (l : List α) : List α := ps.map fun j => l.getD j d
noncomputable def putAt {α : Type} : List Nat → List α → List α → List α
  | j :: ps, x :: xs, l => putAt ps xs (l.set j x)
  | _, _, l => l
theorem flat_hole {cs : List Led} {j : Nat} (h : j < cs.length) : cs.flatten.Perm (cs.getD j [] ++ (cs.set j []).flatten) := by
  have e : cs[j]? = some (cs.getD j []) := by rw [List.getD_eq_getElem?_getD, List.getElem?_eq_getElem h]; rfl
  obtain ⟨pre, post, a, b⟩ := flat_set_mem (c' := []) e
  rw [a, b]
  simp only [List.nil_append]
  exact (List.perm_append_comm_assoc _ _ _)
theorem flat_put {cs : List Led} {j : Nat} (h : j < cs.length) (c : Led) : (cs.set j c).flatten.Perm (c ++ (cs.set j []).flatten) := by
  have := flat_hole (cs := cs.set j c) (j := j) (by simpa using h)
  rw [List.set_set, List.getD_eq_getElem?_getD, List.getElem?_set_self h] at this
  exact this
theorem holes_len : ∀ (ps : List Nat) (cs : List Led), (holes ps cs).length = cs.length
  | [], _ => rfl
  | j :: ps, cs => by
    show (holes ps (cs.set j [])).length = _
    rw [holes_len ps]; simp
theorem putAt_len {α : Type} : ∀ (ps : List Nat) (xs l : List α), (putAt ps xs l).length = l.length
  | [], _, _ => rfl
  | _ :: _, [], _ => rfl
  | j :: ps, x :: xs, l => by
    show (putAt ps xs (l.set j x)).length = _
    rw [putAt_len ps]; simp
theorem putAt_miss {α : Type} : ∀ {ps : List Nat} {xs l : List α} {n : Nat}, n ∉ ps → (putAt ps xs l)[n]? = l[n]?
  | [], _, _, _, _ => rfl
  | _ :: _, [], _, _, _ => rfl
  | j :: ps, x :: xs, l, n, h => by
    show (putAt ps xs (l.set j x))[n]? = _
    rw [putAt_miss fun q => h (List.mem_cons_of_mem _ q), List.getElem?_set_ne]
    rintro rfl
    exact h (List.mem_cons_self ..)
theorem putAt_hit {α : Type} : ∀ {ps : List Nat} {xs l : List α} {i n : Nat}, ps.Nodup → (∀ j ∈ ps, j < l.length) → ps[i]? = some n → i < xs.length → (putAt ps xs l)[n]? = xs[i]?
  | [], _, _, _, _, _, _, h, _ => by (first | exact Mine.ns h | exact Mine.ft h | exact Mine.sn h | exact Mine.tf h | cases h)
  | j :: ps, [], _, i, _, _, _, _, h => by simp at h
  | j :: ps, x :: xs, l, i, n, nd, hb, h, hx => by
    rw [List.nodup_cons] at nd
    show (putAt ps xs (l.set j x))[n]? = _
    cases i with
    | zero =>
      (first | exact Mine.ns h | exact Mine.ft h | exact Mine.sn h | exact Mine.tf h | cases h)
      rw [putAt_miss nd.1, List.getElem?_set_self (hb _ (List.mem_cons_self ..))]; rfl
    | succ i =>
      rw [putAt_hit nd.2 (fun k hk => by simpa using hb k (List.mem_cons_of_mem _ hk)) h (by simpa using hx)]; rfl
theorem perm_holes : ∀ {ps : List Nat} {cs : List Led}, ps.Nodup → (∀ j ∈ ps, j < cs.length) → cs.flatten.Perm ((takeAt [] ps cs).flatten ++ (holes ps cs).flatten)
  | [], cs, _, _ => by simp [takeAt, holes]
  | j :: ps, cs, nd, hb => by
    rw [List.nodup_cons] at nd
    have h1 := flat_hole (hb j (List.mem_cons_self ..))
    have h2 := perm_holes (ps := ps) (cs := cs.set j []) nd.2 fun k hk => by simpa using hb k (List.mem_cons_of_mem _ hk)
    have h3 : takeAt [] ps (cs.set j []) = takeAt [] ps cs := by
      unfold takeAt
      refine List.map_congr_left fun k hk => ?_
      have : k ≠ j := by rintro rfl; exact nd.1 hk
      rw [List.getD_eq_getElem?_getD, List.getD_eq_getElem?_getD, List.getElem?_set_ne (Ne.symm this)]
    rw [h3] at h2
    have : (takeAt [] (j :: ps) cs).flatten ++ (holes (j :: ps) cs).flatten = cs.getD j [] ++ ((takeAt [] ps cs).flatten ++ (holes ps (cs.set j [])).flatten) := by
      show (cs.getD j [] :: takeAt [] ps cs).flatten ++ (holes ps (cs.set j [])).flatten = _
      simp
    rw [this]
    exact h1.trans (List.Perm.append_left _ h2)
theorem holes_get : ∀ (ps : List Nat) (cs : List Led) (n : Nat), (holes ps cs)[n]? = if n ∈ ps then (cs[n]?).map (fun _ => []) else cs[n]?
  | [], cs, n => by simp [holes]
  | j :: ps, cs, n => by
    show (holes ps (cs.set j []))[n]? = _
    rw [holes_get ps]
    by_cases h1 : n = j
    · subst h1
      rw [if_pos (List.mem_cons_self ..), List.getElem?_set_self']
      split <;> cases cs[n]? <;> rfl
    · rw [List.getElem?_set_ne (Ne.symm h1)]
      by_cases h2 : n ∈ ps
      · rw [if_pos h2, if_pos (List.mem_cons_of_mem _ h2)]
      · rw [if_neg h2, if_neg (by simp [h1, h2])]
theorem perm_put {ps : List Nat} {xs cs : List Led} (nd : ps.Nodup) (hb : ∀ j ∈ ps, j < cs.length) (hx : xs.length = ps.length) : (putAt ps xs cs).flatten.Perm (xs.flatten ++ (holes ps cs).flatten) := by
  have h := perm_holes (ps := ps) (cs := putAt ps xs cs) nd fun j hj => by rw [putAt_len]; exact hb j hj
  have e1 : takeAt [] ps (putAt ps xs cs) = xs := by
    unfold takeAt
    refine List.ext_getElem? fun i => ?_
    rw [List.getElem?_map]
    cases hi : ps[i]? with
    | none =>
      have : xs.length ≤ i := by rw [hx]; exact List.getElem?_eq_none_iff.mp hi
      rw [List.getElem?_eq_none this]; rfl
    | some n =>
      have hl : i < xs.length := by rw [hx]; exact (List.getElem?_eq_some_iff.mp hi).1
      have := putAt_hit (xs := xs) nd hb hi hl
      simp only [Option.map_some, List.getD_eq_getElem?_getD, this, List.getElem?_eq_getElem hl, Option.getD_some]
  have e2 : holes ps (putAt ps xs cs) = holes ps cs := by
    refine List.ext_getElem? fun n => ?_
    rw [holes_get, holes_get]
    by_cases hn : n ∈ ps
    · rw [if_pos hn, if_pos hn]
      have l1 : n < cs.length := hb n hn
      rw [List.getElem?_eq_getElem l1, List.getElem?_eq_getElem (by rw [putAt_len]; exact l1)]
      rfl
    · rw [if_neg hn, if_neg hn, putAt_miss hn]
  rw [e1, e2] at h
  exact h
end Mine

end
section -- T3
open PySem PySem.W PyProof.Rows
set_option maxHeartbeats 0
namespace Mine
noncomputable def plOf (ps : List Nat) (n : Nat) : V := match ps[n]? with
  | some j => .loc j
  | none => .any
section
variable {B : Base} {τ τ' : Nat → V}
theorem takeAt_get {α : Type} {d : α} {ps : List Nat} {l : List α} {i j : Nat} (h : ps[i]? = some j) : (takeAt d ps l)[i]? = some (l.getD j d) := by
  unfold takeAt
  rw [List.getElem?_map, h]; rfl
theorem frm_tau {A : Around} {sc : Scope} {fenv env : Env} {h₀ : Heap} {L : Addr} {d : Nat} (Fm : Frm (glb B τ) A sc fenv env h₀ L d) : Frm (glb B τ') A sc fenv env h₀ L d :=
  ⟨Fm.below, Fm.fl, Fm.fk, Fm.kin, Fm.top, Fm.hand, Fm.depth, Fm.units, Fm.ek, Fm.eg, Fm.eb, Fm.glo, Fm.lcl, Fm.clo, Fm.cls, Fm.dbg, Fm.fe⟩
theorem led_perm {fr own tb H C C' pu : Led} (h : C.Perm (C' ++ H)) : (fr ++ (own ++ (tb ++ (C ++ pu)))).Perm ((fr ++ H) ++ (own ++ (tb ++ (C' ++ pu)))) := by
  rw [List.append_assoc]
  refine List.Perm.append_left _ ?_
  have h1 : (own ++ (tb ++ (C ++ pu))).Perm (own ++ (tb ++ ((C' ++ H) ++ pu))) := List.Perm.append_left _ (List.Perm.append_left _ (List.Perm.append_right _ h))
  refine h1.trans ?_
  have h2 : (own ++ (tb ++ ((C' ++ H) ++ pu))) = (own ++ tb ++ C') ++ (H ++ pu) := by simp
  have h3 : H ++ (own ++ (tb ++ (C' ++ pu))) = H ++ ((own ++ tb ++ C') ++ pu) := by simp
  rw [h2, h3]
  exact List.perm_append_comm_assoc _ _ _
theorem take_flat (k : Nat) (cs : List Led) : List.Sublist (cs.take k).flatten cs.flatten := by
  conv => rhs; rw [← List.take_append_drop k cs, List.flatten_append]
  exact List.sublist_append_left ..
/-- a call known in a small heap, in a bigger one -/
theorem lift {d : Nat} {x : Value} {args args' : List V} {h₁ h₁' h hs' : List MO} {v v' : V} {ps : List Nat} (cτ : ∀ k, clV (τ k) = true) (cτ' : ∀ k, clV (τ' k) = true)
    (C : CallsTo (glb B τ') d x args' none ⟨[], h₁⟩ v' h₁' (fun _ _ => True)) (nd : ps.Nodup) (hb : ∀ j ∈ ps, j < h.length)
    (hm : h₁.map (trM (plOf ps) τ') = (takeAt .dead ps h).map (trM .loc τ)) (hmo : h₁.all (okM ps.length τ') = true)
    (ha : trVs (plOf ps) τ' args' = trVs .loc τ args) (hao : okVs ps.length τ' args' = true)
    (hv : trV (plOf ps) τ' v' = trV .loc τ v) (hvo : okV h.length τ v = true)
    (hs : (h₁'.take ps.length).map (trM (plOf ps) τ') = hs'.map (trM .loc τ)) (hso : hs'.all (okM h.length τ) = true) (hsl : hs'.length = ps.length) (l : List (Str × V)) :
    CallsTo (glb B τ) d x args none ⟨l, h⟩ v (putAt ps hs' h) (fun _ _ => True) := by
  intro A sc fenv env h₀ L Fm Z fr own ρ pu s vals kws Q I _ hx hk hQ
  refine opq fun GG kk => ?_
  obtain ⟨m, mm, tb, chs, W⟩ := I
  obtain ⟨len1, len2⟩ := W.ms.len
  have len1 : ρ.length = h.length := len1
  have len2 : chs.length = h.length := len2
  have hlen : h₁.length = ps.length := by
    have := congrArg List.length hm
    simpa [takeAt] using this
  have hbc : ∀ j ∈ ps, j < chs.length := fun j hj => by rw [len2]; exact hb j hj
  have P1 := led_perm (fr := fr) (own := own) (tb := tb) (pu := pu) (perm_holes nd hbc)
  refine kk ?_
  -- the places of the small heap
  have hat : ∀ {i j : Nat}, ps[i]? = some j → ∃ a, ρ[j]? = some a ∧ (takeAt 0 ps ρ)[i]? = some a := fun {i j} e => by
    have hj := hb j (List.mem_of_getElem? e)
    refine ⟨ρ.getD j 0, ?_, takeAt_get e⟩
    rw [List.getD_eq_getElem?_getD, List.getElem?_eq_getElem (by rw [len1]; exact hj)]; rfl
  have hrt : ∀ n, n < ps.length → ∀ v, VR (rcB B τ) ρ pu (plOf ps n) v → VR (rcB B τ') (takeAt 0 ps ρ) pu (.loc n) v := fun n hn v q => by
    have e : ps[n]? = some ps[n] := List.getElem?_eq_getElem hn
    unfold plOf at q
    rw [e] at q
    simp only [] at q
    obtain ⟨a, a1, a2⟩ := hat e
    obtain ⟨_, rfl, q1⟩ := q.loc_inv; clear q
    rw [a1] at q1
    (first | exact Mine.ns q1 | exact Mine.ft q1 | exact Mine.sn q1 | exact Mine.tf q1 | cases q1)
    exact .loc a2
  have I' : Inv (rcB B τ') (fun m' => m' = m) env h₀ L (fr ++ (holes ps chs).flatten) own ⟨[], h₁⟩ (takeAt 0 ps ρ) pu s.heap := by
    refine ⟨m, mm, tb, takeAt [] ps chs, ⟨W.F, rfl, fun p hp => W.N p (P1.mem_iff.mpr hp), ?_, W.ns, (fun x dv e => by (first | exact Mine.ns e | exact Mine.ft e | exact Mine.sn e | exact Mine.tf e | cases e)), ?_, W.tb⟩⟩
    · exact (P1.map (·.1)).nodup_iff.mp W.nd
    · refine MORs.of (by simp [takeAt, hlen]) (by simp [takeAt, hlen]) fun n o a c e1 e2 e3 => ?_
      have hn : n < ps.length := by rw [← hlen]; exact (List.getElem?_eq_some_iff.mp e1).1
      have ep : ps[n]? = some ps[n] := List.getElem?_eq_getElem hn
      obtain ⟨a', a1, a2⟩ := hat ep
      rw [a2] at e2
      (first | exact Mine.ns e2 | exact Mine.ft e2 | exact Mine.sn e2 | exact Mine.tf e2 | cases e2)
      have hj := hb _ (List.mem_of_getElem? ep)
      rw [takeAt_get ep] at e3
      (first | exact Mine.ns e3 | exact Mine.ft e3 | exact Mine.sn e3 | exact Mine.tf e3 | cases e3)
      have eo : (h.getD ps[n] .dead) = h[ps[n]] := by rw [List.getD_eq_getElem?_getD, List.getElem?_eq_getElem hj]; rfl
      have em : trM (plOf ps) τ' o = trM .loc τ h[ps[n]] := by
        have := congrArg (fun q => q[n]?) hm
        simp only [List.getElem?_map, e1, takeAt_get ep, Option.map_some, eo] at this
        exact Option.some.inj this
      have g := W.ms.get (n := ps[n]) (o := h[ps[n]]) (a := a) (c := chs.getD ps[n] []) (List.getElem?_eq_getElem hj) a1 (by rw [List.getD_eq_getElem?_getD, List.getElem?_eq_getElem (by rw [len2]; exact hj)]; rfl)
      have g2 := MOR.tr (τ := τ) (τ' := τ) (pl := .loc) cτ (fun n a e => .loc e) g
      rw [← em] at g2
      exact MOR.rt cτ' hrt (List.all_eq_true.mp hmo o (List.mem_of_getElem? e1)) g2
  have hx' : VRs (rcB B τ') (takeAt 0 ps ρ) pu args' vals := by
    have q := VRs.tr (R := rcB B τ) (R' := rcB B τ) (pl := .loc) rfl cτ (fun n a e => .loc e) hx
    have q : VRs (rcB B τ) ρ pu (trVs .loc τ args) vals := q
    rw [← ha] at q
    exact VRs.rt (R := rcB B τ) (R' := rcB B τ') rfl cτ' hrt args' hao q
  refine C A sc fenv env h₀ L (frm_tau Fm) (fun m' => m' = m) (fr ++ (holes ps chs).flatten) own (takeAt 0 ps ρ) pu s vals kws Q I' trivial hx' hk ?_
  intro y ρ1 pu1 s' pre sub hy I1 same
  obtain ⟨m1, mm1, tb1, chs1, W1⟩ := I1
  have hl1 : ∀ n a, ρ1[n]? = some a → VR (rcB B τ) ρ pu1 (plOf ps n) (.ref a) := fun n a e => by
    unfold plOf
    split
    · rename_i j ej
      obtain ⟨a', a1, a2⟩ := hat ej
      rw [pre _ _ a2] at e
      (first | exact Mine.ns e | exact Mine.ft e | exact Mine.sn e | exact Mine.tf e | cases e)
      exact .loc a1
    · exact .any rfl
  have back : ∀ (dv : V) {y : Value}, okV h.length τ dv = true → VR (rcB B τ) ρ pu1 (trV .loc τ dv) y → VR (rcB B τ) ρ pu1 dv y := fun dv y o q =>
    VR.rt (R := rcB B τ) (R' := rcB B τ) (ρ' := ρ) rfl cτ (fun _ _ _ q => q) dv o q
  refine hQ y ρ pu1 s' (Pre.refl _) sub ?_ ?_ same
  · have q := VR.tr (R := rcB B τ) (R' := rcB B τ') rfl cτ' hl1 hy
    have q : VR (rcB B τ) ρ pu1 (trV (plOf ps) τ' v') y := q
    rw [hv] at q
    exact back v hvo q
  · have z1 : m1 = m := W1.z
    obtain ⟨l1, l2⟩ := W1.ms.len
    have l1 : ρ1.length = h₁'.length := l1
    have l2 : chs1.length = h₁'.length := l2
    have hge : ps.length ≤ h₁'.length := by
      have := congrArg List.length hs
      simp only [List.length_map, List.length_take, hsl] at this
      lia
    have hcl : (chs1.take ps.length).length = ps.length := by rw [List.length_take]; lia
    have P2 := led_perm (fr := fr) (own := own) (tb := tb1) (pu := pu1) (perm_put (xs := chs1.take ps.length) nd hbc hcl)
    have SL : List.Sublist ((fr ++ (holes ps chs).flatten) ++ (own ++ (tb1 ++ ((chs1.take ps.length).flatten ++ pu1)))) (LED (fr ++ (holes ps chs).flatten) own tb1 chs1 pu1) :=
      List.Sublist.append (List.Sublist.refl _) (List.Sublist.append (List.Sublist.refl _) (List.Sublist.append (List.Sublist.refl _) (List.Sublist.append (take_flat _ _) (List.Sublist.refl _))))
    refine ⟨m1, mm, tb1, putAt ps (chs1.take ps.length) chs, ⟨W1.F, by rw [z1]; exact W.z, fun p hp => W1.N p (SL.subset (P2.mem_iff.mp hp)), ?_, by rw [z1]; exact W.ns, W.nm.mono (Pre.refl _) sub, ?_, W1.tb⟩⟩
    · exact (P2.map (·.1)).nodup_iff.mpr ((SL.map (·.1)).nodup W1.nd)
    · refine MORs.of (by rw [putAt_len]; exact len1) (by rw [putAt_len, putAt_len]; exact len2) fun n o a c e1 e2 e3 => ?_
      by_cases hn : n ∈ ps
      · obtain ⟨i, hi⟩ := List.getElem?_of_mem hn
        have hip := (List.getElem?_eq_some_iff.mp hi).1
        rw [putAt_hit nd hb hi (by rw [hsl]; exact hip)] at e1
        rw [putAt_hit nd hbc hi (by rw [hcl]; exact hip), List.getElem?_take_of_lt hip] at e3
        obtain ⟨a', a1, a2⟩ := hat hi
        rw [a1] at e2
        (first | exact Mine.ns e2 | exact Mine.ft e2 | exact Mine.sn e2 | exact Mine.tf e2 | cases e2)
        have ho1 : h₁'[i]? = some h₁'[i] := List.getElem?_eq_getElem (by lia)
        have g := W1.ms.get ho1 (pre _ _ a2) e3
        have g2 := MOR.tr (τ := τ) (τ' := τ') (pl := plOf ps) cτ' hl1 g
        have em : trM (plOf ps) τ' h₁'[i] = trM .loc τ o := by
          have := congrArg (fun q => q[i]?) hs
          simp only [List.getElem?_map, List.getElem?_take_of_lt hip, ho1, e1, Option.map_some] at this
          exact Option.some.inj this
        rw [em] at g2
        exact MOR.rt (m := h.length) cτ (fun _ _ _ q => q) (List.all_eq_true.mp hso o (List.mem_of_getElem? e1)) g2
      · rw [putAt_miss hn] at e1 e3
        exact (W.ms.get e1 e2 e3).mono (rcB_ok B τ) (Pre.refl _) sub
end
end Mine

end
section -- T4
open PySem PySem.W PyProof.Rows
set_option maxHeartbeats 0
namespace Mine
section
variable {B : Base} {τ : Nat → V}
theorem Frm.down {G : Glb} {A : Around} {sc : Scope} {fenv env : Env} {h₀ : Heap} {L : Addr} {d D : Nat} (h : d ≤ D) (Fm : Frm G A sc fenv env h₀ L D) : Frm G A sc fenv env h₀ L d :=
  ⟨Fm.below, Fm.fl, Fm.fk, Fm.kin, Fm.top, Fm.hand, by have := Fm.depth; lia, by have := Fm.units; lia, Fm.ek, Fm.eg, Fm.eb, Fm.glo, Fm.lcl, Fm.clo, Fm.cls, Fm.dbg, Fm.fe⟩
theorem CallsTo.up {G : Glb} {d D : Nat} (h : d ≤ D) {x : Value} {args : List V} {kw : Option V} {st : St} {v : V} {h' : List MO} {f : List Addr → Led → Prop} (C : CallsTo G d x args kw st v h' f) : CallsTo G D x args kw st v h' f :=
  fun A sc fenv env h₀ L Fm => C A sc fenv env h₀ L (Fm.down h)
/-- what the evaluator finds of a call -/
theorem calls_ev {p : Par} {n d : Nat} {a : Addr} {args : List V} {h h' : List MO} {v : V} (S : Snd (glb B τ) d (ev p n d))
    (e : ev p n d default (.c (.val (.ref a)) args none) ⟨[], h⟩ = some (.v v, ⟨[], h'⟩)) : CallsTo (glb B τ) d (.ref a) args none ⟨[], h⟩ v h' (fun _ _ => True) := by
  intro A sc fenv env h₀ L Fm Z fr own ρ pu s vals kws Q I _ hx hk hQ
  exact S.c default _ args none _ v _ e A sc fenv env h₀ L Fm fr own ρ pu s _ vals kws Q I (.val rfl) hx hk hQ
end
end Mine

end
section -- U1
open PySem PySem.W PyProof.Rows
set_option maxHeartbeats 0
namespace Mine
noncomputable abbrev Tr : List Addr → Led → Prop := fun _ _ => True
/-- a summary, with any locals -/
noncomputable def Cal (B : Base) (τ : Nat → V) (d : Nat) (a : Addr) (args : List V) (h : List MO) (v : V) (h' : List MO) : Prop :=
  ∀ l, CallsTo (glb B τ) d (.ref a) args none ⟨l, h⟩ v h' Tr
noncomputable def tau0 : Nat → V := fun _ => .int 0
/-- names from a short list -/
noncomputable def tauL (l : List (Nat × V)) : Nat → V := fun k => (alook k l).getD (.int 0)
section
variable {B : Base} {τ τ' : Nat → V}
theorem alook_memU {α : Type} {a : Nat} {r : α} : ∀ {l : List (Nat × α)}, alook a l = some r → (a, r) ∈ l := fun h => alook_mem h
theorem tauL_ok {l : List (Nat × V)} (h : ∀ q ∈ l, (100 ≤ q.1 → isC q.2 = true ∧ (pdc q.2).depth ≤ 12) ∧ (50 ≤ q.1 → q.1 < 100 → ∃ ps b sc, q.2 = .clo ps b sc)) : TauOk (rcB B (tauL l)) := by
  have key : ∀ k, tauL l k = .int 0 ∨ (k, tauL l k) ∈ l := fun k => by
    unfold tauL
    cases e : alook k l with
    | none => exact .inl rfl
    | some r => exact .inr (alook_mem e)
  refine ⟨fun k hk => ?_, fun k hk => ?_, fun k h1 h2 ρ pu x hx => ?_⟩
  · show isC (tauL l k) = true
    rcases key k with e | e
    · rw [e]; rfl
    · exact ((h _ e).1 hk).1
  · show (pdc (tauL l k)).depth ≤ 12
    rcases key k with e | e
    · rw [e]; decide
    · exact ((h _ e).1 hk).2
  · have hx : VR (rcB B (tauL l)) ρ pu (tauL l k) x := hx
    rcases key k with e | e
    · rw [e] at hx
      obtain ⟨_, rfl⟩ := hx.int_inv; clear hx
      exact ⟨rfl, by intro q; (first | exact Mine.ns q | exact Mine.ft q | exact Mine.sn q | exact Mine.tf q | cases q)⟩
    · obtain ⟨ps, b, sc, e2⟩ := (h _ e).2 h1 h2
      simp only [] at e2
      rw [e2] at hx
      obtain ⟨_, _, _, _, _, _, _, _, _, rfl, _, _, _, _, _, _⟩ := hx.clo_inv; clear hx
      exact ⟨rfl, by intro q; (first | exact Mine.ns q | exact Mine.ft q | exact Mine.sn q | exact Mine.tf q | cases q)⟩
theorem tau0_ok : TauOk (rcB B tau0) := by
  refine ⟨fun k _ => rfl, fun k _ => ?_, fun k h1 h2 ρ pu x hx => ?_⟩
  · show (pdc (.int 0)).depth ≤ 12
    decide
  · have hx : VR (rcB B tau0) ρ pu (.int 0) x := hx
    obtain ⟨_, rfl⟩ := hx.int_inv; clear hx
    exact ⟨rfl, by intro q; (first | exact Mine.ns q | exact Mine.ft q | exact Mine.sn q | exact Mine.tf q | cases q)⟩
theorem tau0_cl (k : Nat) : clV (tau0 k) = true := rfl
theorem tauL_cl {l : List (Nat × V)} (h : ∀ q ∈ l, clV q.2 = true) (k : Nat) : clV (tauL l k) = true := by
  unfold tauL
  cases e : alook k l with
  | none => rfl
  | some r => exact h _ (alook_mem e)
theorem fx_no {G : Glb} {p : Par} (h : p.fx = fun _ _ => none) : FxOk G p := by
  refine ⟨fun a b r e => ?_, fun a b r e => ?_, fun a b r e => ?_, fun a b r e => ?_, fun a r e => ?_⟩ <;> (rw [h] at e; (first | exact Mine.ns e | exact Mine.ft e | exact Mine.sn e | exact Mine.tf e | cases e))
theorem str_no {G : Glb} {p : Par} (h : p.fx = fun _ _ => none) : StrFx G p := by
  intro o r e; rw [h] at e; (first | exact Mine.ns e | exact Mine.ft e | exact Mine.sn e | exact Mine.tf e | cases e)
theorem sg_no {G : Glb} {p : Par} (h : p.sg = fun _ _ _ => none) : SgOk G p := by
  intro d a args hh v h' _ e; rw [h] at e; (first | exact Mine.ns e | exact Mine.ft e | exact Mine.sn e | exact Mine.tf e | cases e)
/-- of a run without summaries -/
theorem right0 (F : Facts B.K) {p : Par} (T : ParT p) (hg : p.gt = par0.gt) (hf : p.fx = fun _ _ => none) (hs : p.sg = fun _ _ _ => none) (n d : Nat) : Snd (glb B tau0) d (ev p n d) :=
  right F T hg tau0_ok (fx_no hf) (str_no hf) (sg_no hs) n d
/-- a call that touches no object of before -/
theorem lift0 {d : Nat} {a : Addr} {args args' : List V} {h₁' : List MO} {v v' : V} (cτ : ∀ k, clV (τ k) = true) (cτ' : ∀ k, clV (τ' k) = true)
    (C : CallsTo (glb B τ') d (.ref a) args' none ⟨[], []⟩ v' h₁' Tr) (ha : trVs (plOf []) τ' args' = trVs .loc τ args) (hao : okVs 0 τ' args' = true)
    (hv : trV (plOf []) τ' v' = trV .loc τ v) (hvo : ∀ m, okV m τ v = true) (h : List MO) : Cal B τ d a args h v h :=
  fun l => lift (ps := []) (hs' := []) (h₁ := []) (h := h) cτ cτ' C List.nodup_nil (fun _ q => by (first | exact Mine.ns q | exact Mine.ft q | exact Mine.sn q | exact Mine.tf q | cases q)) rfl rfl ha hao hv (hvo _) (by simp) rfl rfl l
theorem Cal.up {d D : Nat} {a : Addr} {args : List V} {h h' : List MO} {v : V} (k : d ≤ D) (C : Cal B τ d a args h v h') : Cal B τ D a args h v h' := fun l => CallsTo.up k (C l)
end
/-! ## is_reserved -/
noncomputable def gtabR (R : Str) : List (Str × V) := gtab.map fun q => match seq q.1 "RESERVED" with | true => (q.1, .str R) | false => q
theorem gtabR_resv : gtabR resv = gtab := by kernel_rfl
noncomputable def parR (R : Str) : Par := { par0 with gt := fun x => slook x (gtabR R) }
noncomputable def word2 (x : List Nat) : List Nat := 32 :: x ++ [32]
noncomputable def resNames : List (List Nat) := [[75, 65], [75, 66], [75, 67], [78]]
theorem res_run (R : Str) : resNames.map (fun x => ev (parR R) 20 5 default (.c (.val (.ref 415)) [.str ⟨x.toArray⟩] none) ⟨[], []⟩) = resNames.map (fun x => some (.v (.bool (hasSub (word2 x) R.cps.toList)), ⟨[], []⟩)) := by kernel_rfl
theorem resv_free : ∃ s cs, resv = PySem.Str.ofString s ∧ s = String.ofList cs ∧ resNames.all (fun x => !hasSub (word2 x) (cs.map Char.toNat)) = true := ⟨_, _, rfl, rfl, by decide +kernel⟩
theorem resv_sub {x : List Nat} (h : x ∈ resNames) : hasSub (word2 x) resv.cps.toList = false := by
  obtain ⟨s, cs, e, e2, g⟩ := resv_free
  rw [e, lit_cps s cs e2]
  simpa using List.all_eq_true.mp g x h
theorem res_ok {B : Base} {τ : Nat → V} (cτ : ∀ k, clV (τ k) = true) (F : Facts B.K) {x : List Nat} (hx : x ∈ resNames) (h : List MO) : Cal B τ 5 415 [.str ⟨x.toArray⟩] h (.bool false) h := by
  have e := List.map_inj_left.mp (res_run resv) x hx
  rw [resv_sub hx] at e
  have hg : (parR resv).gt = par0.gt := by
    show (fun x => slook x (gtabR resv)) = fun x => slook x gtab
    rw [gtabR_resv]
  have S := right0 (B := B) F (p := parR resv) ⟨rfl, rfl, rfl, rfl, rfl, rfl⟩ hg rfl rfl 20 5
  exact lift0 cτ tau0_cl (calls_ev S e) rfl rfl rfl (fun _ => rfl) h
end Mine

end
section -- U2
open PySem PySem.W PyProof.Rows
set_option maxHeartbeats 0
namespace Mine
/-! ## the numbers' texts -/
noncomputable def numL (n : Nat) : List Nat := match Nat.blt n 10 with
  | true => [48 + n]
  | false => [48 + n / 10, 48 + n % 10]
noncomputable def numS (n : Nat) : Str := ⟨(numL n).toArray⟩
theorem numS_is : ∀ n : Nat, n < 30 → PySem.Str.ofString (toString (n : Int)) = numS n := by
  have h : ((List.range 30).all fun n => seq (PySem.Str.ofString (toString (n : Int))) (numS n)) = true := by decide +kernel
  intro n hn
  exact (seq_iff _ _).mp (List.all_eq_true.mp h n (List.mem_range.mpr hn))
theorem dec_run : ((List.range 30).all fun n => outOk (ev par0 60 20 default (.c (.val (.ref 155)) [.str (numS n)] none) ⟨[], []⟩) (.tup [.int (.ofNat n), .int 0]) []) = true := by decide +kernel
theorem dec_ok {B : Base} {τ : Nat → V} (cτ : ∀ k, clV (τ k) = true) (F : Facts B.K) {n : Nat} (hn : n < 30) (h0 : τ 0 = .str (numS n)) (h1 : τ 1 = .int (.ofNat n)) (h : List MO) : Cal B τ 20 155 [.nm 0] h (.tup [.nm 1, .int 0]) h := by
  obtain ⟨g, e⟩ := outOk_iff (List.all_eq_true.mp dec_run n (List.mem_range.mpr hn))
  have S := right0 (B := B) F (p := par0) ⟨rfl, rfl, rfl, rfl, rfl, rfl⟩ rfl rfl rfl 60 20
  refine lift0 cτ tau0_cl (calls_ev S e) ?_ rfl ?_ (fun _ => rfl) h
  · show [V.str (numS n)] = [τ 0]
    rw [h0]
  · show V.tup [.int (.ofNat n), .int 0] = .tup [τ 1, .int 0]
    rw [h1]
end Mine

end
section -- U3
open PySem PySem.W PyProof.Rows
set_option maxHeartbeats 0
namespace Mine
/-! ## facts by kind -/
section
variable {G : Glb} {p : Par}
structure FxSem (G : Glb) (X : Fxs) : Prop where
  lt : ∀ a b r, (X.lt a b).bind bOf = some r → ∀ ρ pu x y, VR G.R ρ pu a x → VR G.R ρ pu b y → ∃ i t j u, x = .int i t ∧ y = .int j u ∧ decide (i < j) = r := by nofun
  eq : ∀ a b r, (X.eq a b).bind bOf = some r → ∀ ρ pu x y, VR G.R ρ pu a x → VR G.R ρ pu b y → (∃ u t w t', x = .str u t ∧ y = .str w t' ∧ (u == w) = r) ∨ (∃ i t j t', x = .int i t ∧ y = .int j t' ∧ ieq i j = r) := by nofun
  gt : ∀ a b r, (X.gt a b).bind bOf = some r → ∀ ρ pu x y, VR G.R ρ pu a x → VR G.R ρ pu b y → ∃ i t j u, x = .int i t ∧ y = .int j u ∧ ilt j i = r := by nofun
  sub : ∀ o i r, X.sub o i = some r → ∀ ρ pu x y, VR G.R ρ pu o x → VR G.R ρ pu i y → ∃ a vs n m t v, x = .ref a ∧ ((a, W.listOf (List.toArray vs) n) ∈ pu ∨ (a, tupO (List.toArray vs) n) ∈ pu) ∧ y = .int (Int.ofNat m) t ∧ m < 10000 ∧ vs[m]? = some v ∧ VR G.R ρ pu r v := by nofun
  len : ∀ o r, X.len o = some r → ∀ ρ pu x, VR G.R ρ pu o x → ∃ a vs n, x = .ref a ∧ (a, W.listOf (List.toArray vs) n) ∈ pu ∧ vs.length < 10000 ∧ ∀ t, VR G.R ρ pu r (.int vs.length t) := by nofun
theorem fx_mk {X : Fxs} (hp : p.fx = mkFx X) (K : FxSem G X) : FxOk G p := by
  refine ⟨fun a b r e => K.lt a b r ?_, fun a b r e => K.eq a b r ?_, fun a b r e => K.gt a b r ?_, fun a b r e => K.sub a b r ?_, fun a r e => K.len a r ?_⟩ <;> (rw [hp] at e; exact e)
theorem str_mk {X : Fxs} (hp : p.fx = mkFx X) (h : ∀ o r, X.str o = some r → ∀ ρ pu x, VR G.R ρ pu o x → ∃ (i : Int) (t : Tok), x = .int i t ∧ i.natAbs.log2 < 1920 ∧ ∀ t', VR G.R ρ pu r (.str (toString i) t')) : StrFx G p := by
  intro o r e
  rw [hp] at e
  exact h o r e
end
theorem isNm_iff {k : Nat} {a : V} (h : isNm k a = true) : a = .nm k := by
  (first | exact Mine.ns a | exact Mine.ft a | exact Mine.sn a | exact Mine.tf a | cases a) <;> first | (first | exact Mine.ns h | exact Mine.ft h | exact Mine.sn h | exact Mine.tf h | cases h) | skip
  rw [Nat.eq_of_beq_eq_true h]
theorem isOff_iff {k : Nat} {a : V} {d : Nat} (h : isOff k a = some d) : a = .off k (.ofNat d) := by
  cases a with
  | off j i =>
    cases i with
    | ofNat e =>
      have h : (match Nat.beq k j with | true => some e | false => none) = some d := h
      revert h; refine zB fun _ h => ?_
      rename_i q
      (first | exact Mine.ns h | exact Mine.ft h | exact Mine.sn h | exact Mine.tf h | cases h)
      rw [Nat.eq_of_beq_eq_true q]
    | negSucc e => (first | exact Mine.ns h | exact Mine.ft h | exact Mine.sn h | exact Mine.tf h | cases h)
  | _ => (first | exact Mine.ns h | exact Mine.ft h | exact Mine.sn h | exact Mine.tf h | cases h)
theorem isStr_iff2 {a : V} {x : Str} (h : isStr a = some x) : a = .str x := by
  (first | exact Mine.ns a | exact Mine.ft a | exact Mine.sn a | exact Mine.tf a | cases a) <;> first | ((first | exact Mine.ns h | exact Mine.ft h | exact Mine.sn h | exact Mine.tf h | cases h); rfl) | (first | exact Mine.ns h | exact Mine.ft h | exact Mine.sn h | exact Mine.tf h | cases h)
theorem tauL_low {B : Base} {l : List (Nat × V)} (h : ∀ q ∈ l, q.1 < 50) : TauOk (rcB B (tauL l)) :=
  tauL_ok fun q hq => ⟨fun k => absurd (h q hq) (by lia), fun k => absurd (h q hq) (by lia)⟩
/-! ## names alone -/
mutual
noncomputable def onlyN : V → Bool
  | .tup l => onlyNs l
  | .lst l => onlyNs l
  | .obj _ _ vs => onlyNs vs
  | .nm k => Nat.beq k 1
  | .off _ _ => false
  | .loc _ => false
  | _ => true
noncomputable def onlyNs : List V → Bool
  | [] => true
  | d :: r => onlyN d && onlyNs r
end
mutual
noncomputable def setN (n : V) : V → V
  | .tup l => .tup (setNs n l)
  | .lst l => .lst (setNs n l)
  | .obj C ns vs => .obj C ns (setNs n vs)
  | .nm _ => n
  | d => d
noncomputable def setNs (n : V) : List V → List V
  | [] => []
  | d :: r => setN n d :: setNs n r
end
mutual
theorem trV_setN {pl τ : Nat → V} {n : V} (h : τ 1 = n) : ∀ (d : V), onlyN d = true → trV pl τ d = setN n d
  | .tup l, e => congrArg _ (trVs_setN h l e)
  | .lst l, e => congrArg _ (trVs_setN h l e)
  | .obj C ns l, e => congrArg _ (trVs_setN h l e)
  | .nm k, e => by
    have : k = 1 := Nat.eq_of_beq_eq_true e
    subst this
    exact h
  | .off _ _, e => by (first | exact Mine.ns e | exact Mine.ft e | exact Mine.sn e | exact Mine.tf e | cases e)
  | .loc _, e => by (first | exact Mine.ns e | exact Mine.ft e | exact Mine.sn e | exact Mine.tf e | cases e)
  | .none, _ => rfl
  | .bool _, _ => rfl
  | .int _, _ => rfl
  | .str _, _ => rfl
  | .val _, _ => rfl
  | .bi _, _ => rfl
  | .rng _ _, _ => rfl
  | .clo _ _ _, _ => rfl
  | .any, _ => rfl
theorem trVs_setN {pl τ : Nat → V} {n : V} (h : τ 1 = n) : ∀ (d : List V), onlyNs d = true → trVs pl τ d = setNs n d
  | [], _ => rfl
  | d :: r, e => by
    have e : (onlyN d && onlyNs r) = true := e
    replace e := and2 e
    show trV pl τ d :: trVs pl τ r = setN n d :: setNs n r
    rw [trV_setN h d e.1, trVs_setN h r e.2]
end
mutual
theorem trV_cl {pl τ : Nat → V} : ∀ (d : V), clV d = true → trV pl τ d = d
  | .tup l, e => congrArg _ (trVs_cl l e)
  | .lst l, e => congrArg _ (trVs_cl l e)
  | .obj C ns l, e => congrArg _ (trVs_cl l e)
  | .nm k, e => by (first | exact Mine.ns e | exact Mine.ft e | exact Mine.sn e | exact Mine.tf e | cases e)
  | .off _ _, e => by (first | exact Mine.ns e | exact Mine.ft e | exact Mine.sn e | exact Mine.tf e | cases e)
  | .loc _, e => by (first | exact Mine.ns e | exact Mine.ft e | exact Mine.sn e | exact Mine.tf e | cases e)
  | .none, _ => rfl
  | .bool _, _ => rfl
  | .int _, _ => rfl
  | .str _, _ => rfl
  | .val _, _ => rfl
  | .bi _, _ => rfl
  | .rng _ _, _ => rfl
  | .clo _ _ _, _ => rfl
  | .any, _ => rfl
theorem trVs_cl {pl τ : Nat → V} : ∀ (d : List V), clVs d = true → trVs pl τ d = d
  | [], _ => rfl
  | d :: r, e => by
    have e : (clV d && clVs r) = true := e
    replace e := and2 e
    show trV pl τ d :: trVs pl τ r = d :: r
    rw [trV_cl d e.1, trVs_cl r e.2]
end
mutual
theorem setN_cl {n : V} (hn : clV n = true) : ∀ (d : V), onlyN d = true → clV (setN n d) = true
  | .tup l, e => setNs_cl hn l e
  | .lst l, e => setNs_cl hn l e
  | .obj C ns l, e => setNs_cl hn l e
  | .nm k, _ => hn
  | .off _ _, e => by (first | exact Mine.ns e | exact Mine.ft e | exact Mine.sn e | exact Mine.tf e | cases e)
  | .loc _, e => by (first | exact Mine.ns e | exact Mine.ft e | exact Mine.sn e | exact Mine.tf e | cases e)
  | .none, _ => rfl
  | .bool _, _ => rfl
  | .int _, _ => rfl
  | .str _, _ => rfl
  | .val _, _ => rfl
  | .bi _, _ => rfl
  | .rng _ _, _ => rfl
  | .clo _ _ _, _ => rfl
  | .any, _ => rfl
theorem setNs_cl {n : V} (hn : clV n = true) : ∀ (d : List V), onlyNs d = true → clVs (setNs n d) = true
  | [], _ => rfl
  | d :: r, e => by
    have e : (onlyN d && onlyNs r) = true := e
    replace e := and2 e
    show (clV (setN n d) && clVs (setNs n r)) = true
    rw [setN_cl hn d e.1, setNs_cl hn r e.2]; rfl
end
mutual
theorem okV_cl {m : Nat} {τ : Nat → V} : ∀ (d : V), clV d = true → okV m τ d = true
  | .tup l, e => okVs_cl l e
  | .lst l, e => okVs_cl l e
  | .obj C ns l, e => okVs_cl l e
  | .nm k, _ => rfl
  | .off _ _, e => by (first | exact Mine.ns e | exact Mine.ft e | exact Mine.sn e | exact Mine.tf e | cases e)
  | .loc _, e => by (first | exact Mine.ns e | exact Mine.ft e | exact Mine.sn e | exact Mine.tf e | cases e)
  | .none, _ => rfl
  | .bool _, _ => rfl
  | .int _, _ => rfl
  | .str _, _ => rfl
  | .val _, _ => rfl
  | .bi _, _ => rfl
  | .rng _ _, _ => rfl
  | .clo _ _ _, _ => rfl
  | .any, _ => rfl
theorem okVs_cl {m : Nat} {τ : Nat → V} : ∀ (d : List V), clVs d = true → okVs m τ d = true
  | [], _ => rfl
  | d :: r, e => by
    have e : (clV d && clVs r) = true := e
    replace e := and2 e
    show (okV m τ d && okVs m τ r) = true
    rw [okV_cl d e.1, okVs_cl r e.2]; rfl
end
/-! ## turned -/
/-- what is at a window of the tokens -/
structure Win (toks : List V) (i : Nat) (win : List V) (fin : Bool) (R : Rc) : Prop where
  at' : ∀ d t, win[d]? = some t → ∃ t', toks[i + d]? = some t' ∧ ∀ ρ pu x, VR R ρ pu t' x → VR R ρ pu t x
  fin : fin = true → toks.length = i + win.length
  len : toks.length < 10000
  cl : clVs toks = true
noncomputable def tT (toks : List V) (i : Nat) (n : Nat) (nx : Str) (last : V) : List (Nat × V) := [(0, .str (numS n)), (1, .int (.ofNat n)), (2, .lst toks), (3, .int (.ofNat i)), (4, .int (.ofNat toks.length)), (5, last), (8, .str nx)]
noncomputable abbrev tauT (toks : List V) (i : Nat) (n : Nat) (nx : Str) (last : V) : Nat → V := tauL (tT toks i n nx last)
section
variable {B : Base} {toks : List V} {i n : Nat} {nx : Str} {last : V} {win : List V} {fin : Bool}
theorem tauT_ok : TauOk (rcB B (tauT toks i n nx last)) := by
  refine tauL_low fun q hq => ?_
  simp only [tT, List.mem_cons, List.not_mem_nil, or_false] at hq
  rcases hq with rfl | rfl | rfl | rfl | rfl | rfl | rfl <;> simp
theorem tauT_cl (h1 : clVs toks = true) (h2 : clV last = true) : ∀ k, clV (tauT toks i n nx last k) = true := by
  refine tauL_cl fun q hq => ?_
  simp only [tT, List.mem_cons, List.not_mem_nil, or_false] at hq
  rcases hq with rfl | rfl | rfl | rfl | rfl | rfl | rfl <;> first | rfl | exact h1 | exact h2
set_option tactic.hygienic true in
theorem fxT_ok (W : Win toks i win fin (rcB B (tauT toks i n nx last))) (hnx : nx = "AND" ∨ nx = "OR") : FxOk (glb B (tauT toks i n nx last)) (pT win fin) := by
  refine fx_mk (X := fxT win fin) rfl { lt := fun a b r e ρ pu x y hx hy => ?_, eq := fun a b r e ρ pu x y hx hy => .inl ?_, sub := fun a b r e ρ pu x y hx hy => ?_, len := fun a r e ρ pu x hx => ?_ }
  · replace e : (ltT win.length fin a b).bind bOf = some r := e
    unfold ltT at e
    (first | (revert e; refine mb (fun _ e => ?_) (fun _ e => ?_)) | split at e)
    · rename_i d e1 e2
      obtain rfl := isOff_iff e1
      obtain rfl := isNm_iff e2
      replace hy := VR.nm_inv hy
      replace hy : VR (rcB B (tauT toks i n nx last)) ρ pu (.int (.ofNat toks.length)) y := hy
      obtain ⟨_, rfl⟩ := hy.int_inv; clear hy
      obtain ⟨_, t, ht, rfl⟩ := hx.off_inv; clear hx
      have ht : V.int (.ofNat i) = V.int _ := ht
      (first | exact Mine.ns ht | exact Mine.ft ht | exact Mine.sn ht | exact Mine.tf ht | cases ht)
      refine ⟨_, _, _, _, rfl, rfl, ?_⟩
      (first | (revert e; refine mb (fun _ e => ?_) (fun _ e => ?_)) | split at e)
      · rename_i hd
        (first | exact Mine.ns e | exact Mine.ft e | exact Mine.sn e | exact Mine.tf e | cases e)
        have hd := Nat.blt_eq.mp hd
        obtain ⟨t', h1, _⟩ := W.at' d _ (List.getElem?_eq_getElem hd)
        have := (List.getElem?_eq_some_iff.mp h1).1
        rw [decide_eq_true_eq]
        show (i : Int) + (d : Int) < (toks.length : Int)
        lia
      · (first | (revert e; refine mb (fun _ e => ?_) (fun _ e => ?_)) | split at e)
        · rename_i hd
          (first | exact Mine.ns e | exact Mine.ft e | exact Mine.sn e | exact Mine.tf e | cases e)
          replace hd := and2 hd
          have h1 := W.fin hd.1
          have h2 := Nat.eq_of_beq_eq_true hd.2
          rw [decide_eq_false_iff_not]
          show ¬ ((i : Int) + (d : Int) < (toks.length : Int))
          lia
        · (first | exact Mine.ns e | exact Mine.ft e | exact Mine.sn e | exact Mine.tf e | cases e)
    · (first | exact Mine.ns e | exact Mine.ft e | exact Mine.sn e | exact Mine.tf e | cases e)
  · replace e : (eqT a b).bind bOf = some r := e
    unfold eqT at e
    (first | (revert e; refine mb (fun _ e => ?_) (fun _ e => ?_)) | split at e)
    · rename_i w e1 e2
      obtain rfl := isNm_iff e1
      obtain rfl := isStr_iff2 e2
      replace hx := VR.nm_inv hx
      replace hx : VR (rcB B (tauT toks i n nx last)) ρ pu (.str nx) x := hx
      obtain ⟨_, rfl⟩ := hx.str_inv; clear hx
      obtain ⟨_, rfl⟩ := hy.str_inv; clear hy
      refine ⟨_, _, _, _, rfl, rfl, ?_⟩
      (first | (revert e; refine mb (fun _ e => ?_) (fun _ e => ?_)) | split at e)
      · (first | exact Mine.ns e | exact Mine.ft e | exact Mine.sn e | exact Mine.tf e | cases e)
      · rename_i hw
        (first | exact Mine.ns e | exact Mine.ft e | exact Mine.sn e | exact Mine.tf e | cases e)
        rw [Bool.or_eq_false_iff] at hw
        rw [beq_eq_false_iff_ne]
        rintro rfl
        rcases hnx with rfl | rfl
        · exact (seq_false _ _).mp hw.1 rfl
        · exact (seq_false _ _).mp hw.2 rfl
    · (first | exact Mine.ns e | exact Mine.ft e | exact Mine.sn e | exact Mine.tf e | cases e)
  · replace e : subT win a b = some r := e
    unfold subT at e
    (first | (revert e; refine mb (fun _ e => ?_) (fun _ e => ?_)) | split at e)
    · rename_i d e1 e2
      obtain rfl := isNm_iff e1
      obtain rfl := isOff_iff e2
      replace hx := VR.nm_inv hx
      replace hx : VR (rcB B (tauT toks i n nx last)) ρ pu (.lst toks) x := hx
      obtain ⟨_, _, _, rfl, hm, hr⟩ := hx.lst_inv; clear hx
      obtain ⟨_, t, ht, rfl⟩ := hy.off_inv; clear hy
      have ht : V.int (.ofNat i) = V.int _ := ht
      (first | exact Mine.ns ht | exact Mine.ft ht | exact Mine.sn ht | exact Mine.tf ht | cases ht)
      obtain ⟨t', h1, h2⟩ := W.at' d _ e
      obtain ⟨v, v1, v2⟩ := VRs.nth' hr h1
      have := (List.getElem?_eq_some_iff.mp h1).1
      have := W.len
      exact ⟨_, _, _, i + d, _, v, rfl, .inl hm, rfl, by lia, v1, h2 _ _ _ v2⟩
    · (first | exact Mine.ns e | exact Mine.ft e | exact Mine.sn e | exact Mine.tf e | cases e)
  · replace e : lenT a = some r := e
    unfold lenT at e
    revert e; refine zB fun _ e => ?_
    rename_i e1
    (first | exact Mine.ns e | exact Mine.ft e | exact Mine.sn e | exact Mine.tf e | cases e)
    obtain rfl := isNm_iff e1
    replace hx := VR.nm_inv hx
    replace hx : VR (rcB B (tauT toks i n nx last)) ρ pu (.lst toks) x := hx
    obtain ⟨_, _, _, rfl, hm, hr⟩ := hx.lst_inv; clear hx
    have hl := VRs.length hr
    refine ⟨_, _, _, rfl, hm, by rw [← hl]; exact W.len, fun t => .nm ?_⟩
    rw [← hl]
    exact .int _ _
theorem isName_mem {x : Str} (h : isName x = true) : ∃ l ∈ resNames, x = ⟨l.toArray⟩ := by
  unfold isName at h
  simp only [Bool.or_eq_true] at h
  have e1 : ("KA" : Str) = ⟨[75, 65].toArray⟩ := by decide
  have e2 : ("KB" : Str) = ⟨[75, 66].toArray⟩ := by decide
  have e3 : ("KC" : Str) = ⟨[75, 67].toArray⟩ := by decide
  have e4 : ("N" : Str) = ⟨[78].toArray⟩ := by decide
  rcases h with ((h | h) | h) | h
  · exact ⟨_, by simp [resNames], ((seq_iff _ _).mp h).trans e1⟩
  · exact ⟨_, by simp [resNames], ((seq_iff _ _).mp h).trans e2⟩
  · exact ⟨_, by simp [resNames], ((seq_iff _ _).mp h).trans e3⟩
  · exact ⟨_, by simp [resNames], ((seq_iff _ _).mp h).trans e4⟩
theorem sgT_ok (F : Facts B.K) (hn : n < 30) (h1 : clVs toks = true) (h2 : clV last = true) : SgOk (glb B (tauT toks i n nx last)) (pT win fin) := by
  intro d a args h v h' hd e l
  have hd : 19 ≤ d := hd
  have e : sgT a args h = some (v, h') := e
  have cτ := tauT_cl (i := i) (n := n) (nx := nx) h1 h2
  unfold sgT at e
  (first | (revert e; refine mb (fun _ e => ?_) (fun _ e => ?_)) | split at e)
  · rename_i x
    (first | (revert e; refine mb (fun _ e => ?_) (fun _ e => ?_)) | split at e)
    · rename_i ha
      obtain rfl := Nat.eq_of_beq_eq_true ha
      unfold sgRes at e
      revert e; refine zOStr fun _ _ e => ?_
      rename_i w hw
      obtain rfl := isStr_iff2 hw
      revert e; refine zB fun _ e => ?_
      rename_i hnm
      obtain ⟨rfl, rfl⟩ := oPi e
      obtain ⟨y, hy, rfl⟩ := isName_mem hnm
      exact (res_ok (B := B) cτ F hy h).up (by lia) l
    · revert e; refine zB fun _ e => ?_
      rename_i ha
      obtain rfl := Nat.eq_of_beq_eq_true ha
      unfold sgDec at e
      revert e; refine zB fun _ e => ?_
      rename_i hw
      obtain rfl := isNm_iff hw
      obtain ⟨rfl, rfl⟩ := oPi e
      exact (dec_ok (B := B) cτ F hn rfl rfl h).up (by lia) l
  · (first | exact Mine.ns e | exact Mine.ft e | exact Mine.sn e | exact Mine.tf e | cases e)
noncomputable def turnOk (r : Run) : Bool := outOk (turnE r.win r.fin) r.s.tree [rdO (.nm 2) (.off 3 (.ofNat r.s.win.length)), crO isnV r.s.last]
theorem turn_ok (F : Facts B.K) {r : Run} (hr : turnOk r = true) (hn : n < 30) (hnx : nx = "AND" ∨ nx = "OR") (hl : clV last = true) (W : Win toks i r.win r.fin (rcB B (tauT toks i n nx last))) :
    ∃ g, CallsTo (glb B (tauT toks i n nx last)) 40 (.ref 337) [.loc 1] none ⟨[], turnH⟩ r.s.tree ([rdO (.nm 2) (.off 3 (.ofNat r.s.win.length)), crO isnV r.s.last] ++ g) Tr := by
  obtain ⟨g, e⟩ := outOk_iff hr
  have S := right (B := B) F (p := pT r.win r.fin) ⟨rfl, rfl, rfl, rfl, rfl, rfl⟩ rfl tauT_ok (fxT_ok W hnx) (str_mk (X := fxT r.win r.fin) rfl fun o r e => by (first | exact Mine.ns e | exact Mine.ft e | exact Mine.sn e | exact Mine.tf e | cases e)) (sgT_ok F hn W.cl hl) 200 40
  exact ⟨g, calls_ev S e⟩
end
end Mine

end
section -- U4
open PySem PySem.W PyProof.Rows
set_option maxHeartbeats 0
namespace Mine
/-! ## the parts, with their numbers -/
structure Itm where
  conn : Bool
  r : Run
  n : Nat
noncomputable def Itm.tree (t : Itm) : V := setN (.int (.ofNat t.n)) t.r.s.tree
noncomputable def Itm.last (t : Itm) : V := setN (.int (.ofNat t.n)) t.r.s.last
noncomputable def planOf (its : List Itm) : Plan := its.map fun t => (t.conn, t.r.s.win.length)
/-- what is asked of a shape -/
noncomputable def shpOk (s : Shp) : Bool := onlyN s.tree && onlyN s.last && isC (setN (.int 0) s.tree) && Nat.ble (pdc (setN (.int 0) s.tree)).depth 12
structure ItmOk (t : Itm) : Prop where
  run : turnOk t.r = true
  n : t.n < 30
  tree : onlyN t.r.s.tree = true
  last : onlyN t.r.s.last = true
  isC : isC t.tree = true
  depth : (pdc t.tree).depth ≤ 12
noncomputable def tauE (toks : List V) (its : List Itm) (k : Nat) : V :=
  if k = 2 then .lst toks else if k = 50 then isnV
  else if 100 ≤ k then ((its[k - 100]?).map Itm.tree).getD (.int 0)
  else if 10 ≤ k ∧ k < 50 then ((its[k - 10]?).map Itm.last).getD (.int 0) else .int 0
theorem isnV_cl : clV isnV = true := by decide +kernel
theorem isnV_clo : ∃ ps b sc, isnV = .clo ps b sc := by
  have h : (asClo isnV).isSome = true := by decide +kernel
  generalize isnV = v at h
  (first | exact Mine.ns v | exact Mine.ft v | exact Mine.sn v | exact Mine.tf v | cases v) <;> first | exact ⟨_, _, _, rfl⟩ | (first | exact Mine.ns h | exact Mine.ft h | exact Mine.sn h | exact Mine.tf h | cases h)
section
variable {B : Base} {toks : List V} {its : List Itm}
theorem tauE_tree {i : Nat} {t : Itm} (h : its[i]? = some t) : tauE toks its (100 + i) = t.tree := by
  unfold tauE
  refine (if_neg (by lia)).trans ((if_neg (by lia)).trans ((if_pos (by lia)).trans ?_)); rw [Nat.add_sub_cancel_left, h]; rfl
theorem tauE_last {i : Nat} {t : Itm} (h : its[i]? = some t) (hi : i < 40) : tauE toks its (10 + i) = t.last := by
  unfold tauE
  refine (if_neg (by lia)).trans ((if_neg (by lia)).trans ((if_neg (by lia)).trans ((if_pos (by lia)).trans ?_))); rw [Nat.add_sub_cancel_left, h]; rfl
theorem tauE_cl (h1 : clVs toks = true) (h : ∀ t ∈ its, ItmOk t) (k : Nat) : clV (tauE toks its k) = true := by
  unfold tauE
  split
  · exact h1
  · split
    · exact isnV_cl
    · split
      · cases e : its[k - 100]? with
        | none => rfl
        | some t => exact setN_cl rfl _ (h t (List.mem_of_getElem? e)).tree
      · split
        · cases e : its[k - 10]? with
          | none => rfl
          | some t => exact setN_cl rfl _ (h t (List.mem_of_getElem? e)).last
        · rfl
theorem tauE_ok (h : ∀ t ∈ its, ItmOk t) : TauOk (rcB B (tauE toks its)) := by
  refine ⟨fun k hk => ?_, fun k hk => ?_, fun k h1 h2 ρ pu x hx => ?_⟩
  · show isC (tauE toks its k) = true
    unfold tauE
    rw [if_neg (by lia), if_neg (by lia), if_pos hk]
    cases e : its[k - 100]? with
    | none => rfl
    | some t => exact (h t (List.mem_of_getElem? e)).isC
  · show (pdc (tauE toks its k)).depth ≤ 12
    unfold tauE
    rw [if_neg (by lia), if_neg (by lia), if_pos hk]
    cases e : its[k - 100]? with
    | none => show (pdc (.int 0)).depth ≤ 12; decide
    | some t => exact (h t (List.mem_of_getElem? e)).depth
  · replace hx : VR (rcB B (tauE toks its)) ρ pu (tauE toks its k) x := hx
    unfold tauE at hx
    rw [if_neg (by lia)] at hx
    (first | (revert hx; refine mb (fun _ hx => ?_) (fun _ hx => ?_)) | split at hx)
    · obtain ⟨ps, b, sc, e⟩ := isnV_clo
      rw [e] at hx
      obtain ⟨_, _, _, _, _, _, _, _, _, rfl, _, _, _, _, _, _⟩ := hx.clo_inv; clear hx
      exact ⟨rfl, by intro q; (first | exact Mine.ns q | exact Mine.ft q | exact Mine.sn q | exact Mine.tf q | cases q)⟩
    · rw [if_neg (by lia), if_neg (by lia)] at hx
      obtain ⟨_, rfl⟩ := hx.int_inv; clear hx
      exact ⟨rfl, by intro q; (first | exact Mine.ns q | exact Mine.ft q | exact Mine.sn q | exact Mine.tf q | cases q)⟩
/-- the word behind a part -/
noncomputable def nxOf (its : List Itm) (i : Nat) : Str := match its[i + 1]? with
  | some t => connW t.conn
  | none => "AND"
set_option tactic.hygienic true in
theorem nxOf_ok (i : Nat) : nxOf its i = "AND" ∨ nxOf its i = "OR" := by
  unfold nxOf
  split
  · rename_i t _
    cases t.conn
    · exact .inl rfl
    · exact .inr rfl
  · exact .inl rfl
noncomputable def lastV (its : List Itm) : Nat → V
  | 0 => .none
  | i + 1 => ((its[i]?).map Itm.last).getD .none
theorem lastN_tr {i : Nat} (hi : i ≤ its.length) (h40 : its.length < 40) (pl : Nat → V) : trV pl (tauE toks its) (lastN i) = lastV its i := by
  cases i with
  | zero => rfl
  | succ i =>
    have e : its[i]? = some its[i] := List.getElem?_eq_getElem (by lia)
    show tauE toks its (10 + i) = _
    rw [tauE_last e (by lia)]
    show _ = ((its[i]?).map Itm.last).getD .none
    rw [e]; rfl
/-- the summary of turned, where the reader stands at a number -/
theorem item_ok (F : Facts B.K) (hits : ∀ t ∈ its, ItmOk t) (h40 : its.length < 40) (h1 : clVs toks = true) {i k : Nat} {t : Itm} (ht : its[i]? = some t)
    (W : Win toks k t.r.win t.r.fin (rcB B (tauT toks k t.n (nxOf its i) (lastV its i)))) :
    Cal B (tauE toks its) 40 337 [.loc 1] (eH k i) (.nm (100 + i)) (eH (k + t.r.s.win.length) (i + 1)) := by
  intro l
  have I := hits t (List.mem_of_getElem? ht)
  have hi : i < its.length := (List.getElem?_eq_some_iff.mp ht).1
  have hl : clV (lastV its i) = true := by
    cases i with
    | zero => rfl
    | succ i =>
      show clV (((its[i]?).map Itm.last).getD .none) = true
      cases e : its[i]? with
      | none => rfl
      | some t => exact setN_cl (n := .int (.ofNat t.n)) rfl _ (hits t (List.mem_of_getElem? e)).last
  obtain ⟨g, C⟩ := turn_ok F I.run I.n (nxOf_ok i) hl W
  have cτ := tauE_cl (its := its) h1 hits
  have cτ' := tauT_cl (i := k) (n := t.n) (nx := nxOf its i) h1 hl
  have e1 : tauT toks k t.n (nxOf its i) (lastV its i) 1 = .int (.ofNat t.n) := rfl
  refine lift (ps := [0, 1]) (hs' := eH (k + t.r.s.win.length) (i + 1)) cτ cτ' C (by decide) (by intro j hj; simp at hj; show j < 2; lia) ?_ rfl rfl rfl ?_ rfl ?_ rfl rfl l
  · show [MO.obj 589 _ [.lst toks, .int (.ofNat k), .any], MO.obj 396 _ [.loc 0, trV _ _ isnV, .int 0, lastV its i]] = [MO.obj 589 _ [.lst toks, .int (.ofNat k), .any], MO.obj 396 _ [.loc 0, isnV, .int 0, trV _ _ (lastN i)]]
    rw [trV_cl _ isnV_cl, lastN_tr (by lia) h40]
  · rw [trV_setN e1 _ I.tree]
    exact (tauE_tree ht).symm
  · show [MO.obj 589 _ [.lst toks, .int (.ofNat (k + t.r.s.win.length)), .any], MO.obj 396 _ [.loc 0, trV _ _ isnV, .int 0, trV _ _ t.r.s.last]] = [MO.obj 589 _ [.lst toks, .int (.ofNat (k + t.r.s.win.length)), .any], MO.obj 396 _ [.loc 0, isnV, .int 0, trV _ _ (lastN (i + 1))]]
    rw [trV_cl _ isnV_cl, lastN_tr (by lia) h40, trV_setN e1 _ I.last]
    show _ = [_, MO.obj 396 _ [_, _, _, ((its[i]?).map Itm.last).getD .none]]
    rw [ht]; rfl
end
end Mine

end
section -- U5
open PySem PySem.W PyProof.Rows
set_option maxHeartbeats 0
namespace Mine
theorem isC_clo : True := trivial
theorem findRow_mem {k : Nat} {r : Row} : ∀ {l : List Row}, findRow k l = some r → r ∈ l ∧ r.pos = k
  | [], h => by (first | exact Mine.ns h | exact Mine.ft h | exact Mine.sn h | exact Mine.tf h | cases h)
  | q :: l, h => by
    unfold findRow at h
    (first | (revert h; refine mb (fun _ h => ?_) (fun _ h => ?_)) | split at h)
    · rename_i e
      (first | exact Mine.ns h | exact Mine.ft h | exact Mine.sn h | exact Mine.tf h | cases h)
      exact ⟨List.mem_cons_self .., Nat.eq_of_beq_eq_true e⟩
    · obtain ⟨a, b⟩ := findRow_mem h
      exact ⟨List.mem_cons_of_mem _ a, b⟩
theorem intNat_iff {v : V} {k : Nat} (h : intNat v = some k) : v = .int (.ofNat k) := by
  cases v with
  | int i => (first | exact Mine.ns i | exact Mine.ft i | exact Mine.sn i | exact Mine.tf i | cases i) <;> first | ((first | exact Mine.ns h | exact Mine.ft h | exact Mine.sn h | exact Mine.tf h | cases h); rfl) | (first | exact Mine.ns h | exact Mine.ft h | exact Mine.sn h | exact Mine.tf h | cases h)
  | _ => (first | exact Mine.ns h | exact Mine.ft h | exact Mine.sn h | exact Mine.tf h | cases h)
/-- the tokens are as the parts say -/
structure EnvOk (B : Base) (toks : List V) (its : List Itm) : Prop where
  ok : ∀ t ∈ its, ItmOk t
  m40 : its.length < 40
  cl : clVs toks = true
  big : toks.length < 10000
  len : toks.length = lenOf (planOf its)
  row : ∀ r ∈ rowsOf 0 0 (planOf its), ∃ t, its[r.i]? = some t ∧ r.len = t.r.s.win.length ∧ Win toks r.pos t.r.win t.r.fin (rcB B (tauT toks r.pos t.n (nxOf its r.i) (lastV its r.i)))
  con : ∀ r ∈ rowsOf 0 0 (planOf its), 0 < r.i → ∃ k t', r.pos = k + 1 ∧ toks[k]? = some t' ∧ ∀ (R : Rc) ρ pu x, VR R ρ pu t' x → VR R ρ pu (tW (connW r.conn)) x
section
variable {B : Base} {toks : List V} {its : List Itm}
set_option tactic.hygienic true in
theorem sgE_ok (F : Facts B.K) (E : EnvOk B toks its) : SgOk (glb B (tauE toks its)) (pE (planOf its)) := by
  intro d a args h v h' hd e l
  replace hd : 39 ≤ d := hd
  replace e : sgE (planOf its) a args h = some (v, h') := e
  unfold sgE at e
  revert e; refine zBf fun _ e => ?_
  rename_i ha
  replace ha := and2 ha
  obtain rfl := Nat.eq_of_beq_eq_true ha.1
  obtain rfl := vsB_iff _ ha.2
  (first | (revert e; refine mb (fun _ e => ?_) (fun _ e => ?_)) | split at e)
  · (first | exact Mine.ns e | exact Mine.ft e | exact Mine.sn e | exact Mine.tf e | cases e)
  · (first | (revert e; refine mb (fun _ e => ?_) (fun _ e => ?_)) | split at e)
    · (first | exact Mine.ns e | exact Mine.ft e | exact Mine.sn e | exact Mine.tf e | cases e)
    · rename_i r hr
      revert e; refine zB fun _ e => ?_
      rename_i hm
      obtain rfl := mosB_iff _ hm
      obtain ⟨rfl, rfl⟩ := oPi e
      obtain ⟨t, h1, h2, h3⟩ := E.row r (findRow_mem hr).1
      rw [h2]
      exact (item_ok F E.ok E.m40 E.cl h1 h3).up (by lia) l
set_option tactic.hygienic true in
theorem fxE_ok (E : EnvOk B toks its) : FxOk (glb B (tauE toks its)) (pE (planOf its)) := by
  refine fx_mk (X := { sub := subE (planOf its), len := lenE (planOf its) }) rfl { sub := fun a b r e ρ pu x y hx hy => ?_, len := fun a r e ρ pu x hx => ?_ }
  · replace e : subE (planOf its) a b = some r := e
    unfold subE at e
    (first | (revert e; refine mb (fun _ e => ?_) (fun _ e => ?_)) | split at e)
    · rename_i k e1 e2
      obtain rfl := isNm_iff e1
      obtain rfl := intNat_iff e2
      replace hx := VR.nm_inv hx
      replace hx : VR (rcB B (tauE toks its)) ρ pu (.lst toks) x := hx
      (first | (revert e; refine mb (fun _ e => ?_) (fun _ e => ?_)) | split at e)
      · rename_i w hw
        obtain ⟨hm, hp⟩ := findRow_mem hw
        revert e; refine zB fun _ e => ?_
        rename_i hi
        (first | exact Mine.ns e | exact Mine.ft e | exact Mine.sn e | exact Mine.tf e | cases e)
        obtain ⟨j, t', g1, g2, g3⟩ := E.con w hm (Nat.blt_eq.mp hi)
        have : j = k := by lia
        subst this
        obtain ⟨_, _, _, rfl, hmem, hr⟩ := hx.lst_inv; clear hx
        obtain ⟨_, rfl⟩ := hy.int_inv; clear hy
        obtain ⟨v, v1, v2⟩ := VRs.nth' hr g2
        have := (List.getElem?_eq_some_iff.mp g2).1
        have := E.big
        exact ⟨_, _, _, j, _, v, rfl, .inl hmem, rfl, by lia, v1, g3 _ _ _ _ v2⟩
      · (first | exact Mine.ns e | exact Mine.ft e | exact Mine.sn e | exact Mine.tf e | cases e)
    · (first | exact Mine.ns e | exact Mine.ft e | exact Mine.sn e | exact Mine.tf e | cases e)
  · replace e : lenE (planOf its) a = some r := e
    unfold lenE at e
    revert e; refine zB fun _ e => ?_
    rename_i e1
    (first | exact Mine.ns e | exact Mine.ft e | exact Mine.sn e | exact Mine.tf e | cases e)
    obtain rfl := isNm_iff e1
    replace hx := VR.nm_inv hx
    replace hx : VR (rcB B (tauE toks its)) ρ pu (.lst toks) x := hx
    obtain ⟨_, _, _, rfl, hm, hr⟩ := hx.lst_inv; clear hx
    have hl := VRs.length hr
    refine ⟨_, _, _, rfl, hm, by rw [← hl]; exact E.big, fun t => ?_⟩
    rw [← E.len, hl]
    exact .int _ _
theorem read_ok (F : Facts B.K) (E : EnvOk B toks its) (hr : readOk (planOf its) = true) :
    ∃ g, CallsTo (glb B (tauE toks its)) 60 (.ref 408) [.loc 0, .nm 50] none ⟨[], [rdO (.nm 2) (.int 0)]⟩ (condE (planOf its)) (readH (planOf its) ++ g) Tr := by
  obtain ⟨g, e⟩ := outOk_iff hr
  have S := right (B := B) F (p := pE (planOf its)) ⟨rfl, rfl, rfl, rfl, rfl, rfl⟩ rfl (tauE_ok E.ok) (fxE_ok E) (str_mk (X := { sub := subE (planOf its), len := lenE (planOf its) }) rfl fun o r e => by (first | exact Mine.ns e | exact Mine.ft e | exact Mine.sn e | exact Mine.tf e | cases e)) (sgE_ok F E) 120 60
  exact ⟨g, calls_ev S e⟩
/-- the tree that is read -/
noncomputable def condT : Option V → V → List Itm → V
  | e, b, [] => joinO e b
  | e, b, t :: r => (match t.conn with
    | true => condT (some (joinO e b)) t.tree r
    | false => condT e (.tup [.str "and", b, t.tree]) r)
noncomputable def treeOf : List Itm → V
  | [] => .none
  | t :: r => condT none t.tree r
theorem condG_tr (pl : Nat → V) : ∀ (r : List Itm) (i : Nat) (e : Option V) (b : V), (∀ j t, r[j]? = some t → its[i + j]? = some t) → trV pl (tauE toks its) (condG e b i (planOf r)) = condT (e.map (trV pl (tauE toks its))) (trV pl (tauE toks its) b) r
  | [], i, e, b, _ => by
    (first | exact Mine.ns e | exact Mine.ft e | exact Mine.sn e | exact Mine.tf e | cases e) <;> rfl
  | t :: r, i, e, b, h => by
    have h0 : tauE toks its (100 + i) = t.tree := tauE_tree (h 0 t rfl)
    have hr : ∀ j u, r[j]? = some u → its[i + 1 + j]? = some u := fun j u q => by
      have := h (j + 1) u q
      rw [show i + 1 + j = i + (j + 1) by lia]
      exact this
    show trV pl (tauE toks its) (match t.conn with
      | true => condG (some (joinO e b)) (.nm (100 + i)) (i + 1) (planOf r)
      | false => condG e (.tup [.str "and", b, .nm (100 + i)]) (i + 1) (planOf r)) = (match t.conn with
      | true => condT (some (joinO (e.map (trV pl (tauE toks its))) (trV pl (tauE toks its) b))) t.tree r
      | false => condT (e.map (trV pl (tauE toks its))) (.tup [.str "and", trV pl (tauE toks its) b, t.tree]) r)
    cases t.conn with
    | true =>
      simp only []
      rw [condG_tr pl r (i + 1) _ _ hr]
      show condT (some (trV pl (tauE toks its) (joinO e b))) (tauE toks its (100 + i)) r = _
      rw [h0]
      (first | exact Mine.ns e | exact Mine.ft e | exact Mine.sn e | exact Mine.tf e | cases e) <;> rfl
    | false =>
      simp only []
      rw [condG_tr pl r (i + 1) _ _ hr]
      show condT _ (.tup [.str "and", trV pl (tauE toks its) b, tauE toks its (100 + i)]) r = _
      rw [h0]
theorem condE_tr (pl : Nat → V) : ∀ {l : List Itm}, its = l → trV pl (tauE toks its) (condE (planOf l)) = treeOf l
  | [], _ => rfl
  | t :: r, h => by
    show trV pl (tauE toks its) (condG none (.nm 100) 1 (planOf r)) = condT none t.tree r
    rw [condG_tr pl r 1 none _ (fun j u q => by rw [h, Nat.add_comm]; exact q)]
    show condT none (tauE toks its (100 + 0)) r = _
    rw [tauE_tree (by rw [h]; rfl)]
end
end Mine

end
section -- U6
open PySem PySem.W PyProof.Rows
set_option maxHeartbeats 0
namespace Mine
/-! ## a list that is changed no more -/
noncomputable def plF (toks : List V) : Nat → V
  | 0 => .lst toks
  | n + 1 => .loc (n + 1)
section
variable {B : Base} {τ : Nat → V}
theorem MORs.tr {ρ ρ' : List Addr} {pu : Led} {pl : Nat → V} (hc : ∀ k, clV (τ k) = true) (hl : ∀ n a, ρ'[n]? = some a → VR (rcB B τ) ρ pu (pl n) (.ref a)) : ∀ {ms : List MO} {as : List Addr} {cs : List Led}, MORs (rcB B τ) ρ' pu ms as cs → MORs (rcB B τ) ρ pu (ms.map (trM pl τ)) as cs
  | _, _, _, .nil => .nil
  | _, _, _, .cons h r => .cons (MOR.tr hc hl h) (MORs.tr hc hl r)
set_option tactic.hygienic true in
theorem frz {d : Nat} {x : Value} {args : List V} {v : V} {h' rest : List MO} {toks : List V} (cτ : ∀ k, clV (τ k) = true)
    (C : ∀ l, CallsTo (glb B τ) d x (trVs (plF toks) τ args) none ⟨l, .dead :: rest.map (trM (plF toks) τ)⟩ v h' Tr) (l : List (Str × V)) : CallsTo (glb B τ) d x args none ⟨l, .lst toks :: rest⟩ v h' Tr := by
  intro A sc fenv env h₀ L Fm Z fr own ρ pu s vals kws Q I _ hx hk hQ
  refine opq fun GG kk => ?_
  obtain ⟨m, mm, tb, chs, W⟩ := I
  have ms : MORs (rcB B τ) ρ pu (.lst toks :: rest) ρ chs := W.ms
  cases ms with
  | @cons _ _ a as c cs h1 hr =>
    obtain ⟨vs, n, rfl, hv⟩ := h1.lst_inv; clear h1
    have sub : Sub pu ((a, listOf vs.toArray n) :: pu) := fun p hp => List.mem_cons_of_mem _ hp
    have pm : List.Perm (LED fr own tb ([(a, listOf vs.toArray n)] :: cs) pu) (LED fr own tb ([] :: cs) ((a, listOf vs.toArray n) :: pu)) := by
      show (fr ++ (own ++ (tb ++ (((a, listOf vs.toArray n) :: cs.flatten) ++ pu)))).Perm (fr ++ (own ++ (tb ++ (cs.flatten ++ (a, listOf vs.toArray n) :: pu))))
      refine List.Perm.append_left _ (List.Perm.append_left _ (List.Perm.append_left _ ?_))
      exact List.perm_middle.symm
    have hl : ∀ k b, (a :: as)[k]? = some b → VR (rcB B τ) (a :: as) ((a, listOf vs.toArray n) :: pu) (plF toks k) (.ref b) := fun k b e => by
      cases k with
      | zero =>
        (first | exact Mine.ns e | exact Mine.ft e | exact Mine.sn e | exact Mine.tf e | cases e)
        exact .lst (List.mem_cons_self ..) (hv.mono (Pre.refl _) sub)
      | succ k => exact .loc e
    refine kk ?_
    refine C l A sc fenv env h₀ L Fm Z fr own (a :: as) ((a, listOf vs.toArray n) :: pu) s vals kws Q ?_ trivial ?_ hk (hQ.shift (Pre.refl _) sub (Same.refl s))
    · refine ⟨m, mm, tb, [] :: cs, ⟨W.F, W.z, fun p hp => W.N p (pm.mem_iff.mpr hp), (pm.map (·.1)).nodup_iff.mp W.nd, W.ns, W.nm.mono (Pre.refl _) sub, ?_, (rcB_ok B τ).TBm sub W.tb⟩⟩
      exact .cons .dead (MORs.tr cτ hl (hr.mono (rcB_ok B τ) (Pre.refl _) sub))
    · exact VRs.tr (R := rcB B τ) (R' := rcB B τ) rfl cτ hl (hx.mono (Pre.refl _) sub)
end
section
variable {B : Base} {toks : List V} {its : List Itm}
theorem joinO_cl {e : Option V} {b : V} (h1 : ∀ x, e = some x → clV x = true) (h2 : clV b = true) : clV (joinO e b) = true := by
  cases e with
  | none => exact h2
  | some x =>
    show (true && (clV x && (clV b && true))) = true
    rw [h1 x rfl, h2]; rfl
theorem condT_cl : ∀ {r : List Itm} {e : Option V} {b : V}, (∀ t ∈ r, clV t.tree = true) → (∀ x, e = some x → clV x = true) → clV b = true → clV (condT e b r) = true
  | [], e, b, _, h1, h2 => joinO_cl h1 h2
  | t :: r, e, b, h, h1, h2 => by
    have ht := h t (List.mem_cons_self ..)
    have hr : ∀ u ∈ r, clV u.tree = true := fun u hu => h u (List.mem_cons_of_mem _ hu)
    show clV (match t.conn with
      | true => condT (some (joinO e b)) t.tree r
      | false => condT e (.tup [.str "and", b, t.tree]) r) = true
    cases t.conn with
    | true => exact condT_cl hr (fun x hx => by (first | exact Mine.ns hx | exact Mine.ft hx | exact Mine.sn hx | exact Mine.tf hx | cases hx); exact joinO_cl h1 h2) ht
    | false =>
      refine condT_cl hr h1 ?_
      show (true && (clV b && (clV t.tree && true))) = true
      rw [h2, ht]; rfl
theorem treeOf_cl : ∀ {l : List Itm}, (∀ t ∈ l, ItmOk t) → clV (treeOf l) = true
  | [], _ => rfl
  | t :: r, h => by
    have k : ∀ u ∈ t :: r, clV u.tree = true := fun u hu => setN_cl (n := .int (.ofNat u.n)) rfl _ (h u hu).tree
    exact condT_cl (fun u hu => k u (List.mem_cons_of_mem _ hu)) (fun x hx => by (first | exact Mine.ns hx | exact Mine.ft hx | exact Mine.sn hx | exact Mine.tf hx | cases hx)) (k t (List.mem_cons_self ..))
theorem plF_loc {k : Nat} (h : 0 < k) : plF toks k = .loc k := by
  cases k with
  | zero => lia
  | succ k => rfl
theorem read408 (F : Facts B.K) (E : EnvOk B toks its) (hr : readOk (planOf its) = true) {τ : Nat → V} (cτ : ∀ k, clV (τ k) = true) (L : Nat) :
    ∃ h', Cal B τ 60 408 [.loc (L + 1), isnV] (.lst toks :: (List.replicate L .dead ++ [rdO (.loc 0) (.int 0)])) (treeOf its) h' := by
  obtain ⟨g, C⟩ := read_ok F E hr
  have ct := treeOf_cl E.ok
  refine ⟨putAt [L + 1] [rdO (.lst toks) (.int (.ofNat (lenOf (planOf its))))] (.dead :: (List.replicate L .dead ++ [rdO (.lst toks) (.int 0)])), frz cτ fun l => ?_⟩
  have e1 : trVs (plF toks) τ [.loc (L + 1), isnV] = [.loc (L + 1), isnV] := by
    show [V.loc (L + 1), trV _ _ isnV] = _
    rw [trV_cl _ isnV_cl]
  have e2 : (List.replicate L MO.dead ++ [rdO (.loc 0) (.int 0)]).map (trM (plF toks) τ) = List.replicate L MO.dead ++ [rdO (.lst toks) (.int 0)] := by
    rw [List.map_append, List.map_replicate]; rfl
  rw [e1, e2]
  have eg : (MO.dead :: (List.replicate L MO.dead ++ [rdO (.lst toks) (.int 0)])).getD (L + 1) .dead = rdO (.lst toks) (.int 0) := by
    rw [List.getD_cons_succ, List.getD_eq_getElem?_getD, List.getElem?_append_right (by simp)]
    simp
  have hp : plOf [L + 1] 0 = .loc (L + 1) := rfl
  refine lift (ps := [L + 1]) (hs' := [rdO (.lst toks) (.int (.ofNat (lenOf (planOf its))))]) (h := .dead :: (List.replicate L .dead ++ [rdO (.lst toks) (.int 0)])) cτ (tauE_cl E.cl E.ok) C (by simp) (by intro j hj; simp at hj; subst hj; simp) ?_ rfl ?_ rfl ?_ (okV_cl _ ct) ?_ ?_ rfl l
  · show [MO.obj 589 _ [.lst toks, .int 0, .any]] = [trM .loc τ (List.getD _ _ _)]
    rw [eg]
    show _ = [MO.obj 589 _ [.lst (trVs .loc τ toks), .int 0, .any]]
    rw [trVs_cl _ E.cl]
  · show [V.loc (L + 1), isnV] = [.loc (L + 1), trV _ _ isnV]
    rw [trV_cl _ isnV_cl]
  · rw [trV_cl _ ct]
    exact condE_tr _ rfl
  · show [MO.obj 589 _ [.lst toks, .int _, .any]] = [MO.obj 589 _ [.lst (trVs .loc τ toks), .int _, .any]]
    rw [trVs_cl _ E.cl]
  · show (((okVs _ _ toks && (true && (true && true))) && true)) = true
    rw [okVs_cl _ E.cl]; rfl
end
end Mine

end
section -- U7
open PySem PySem.W PyProof.Rows
set_option maxHeartbeats 0
namespace Mine
/-! ## steps of the evaluator, as rules -/
section
variable {p : Par} {n d : Nat} {sc : Scope} {st s1 s2 s3 : St}
theorem ev_sub {x o i : Expr} {ov iv v : V} (hk : kindE x = .sub o i) (h1 : ev p n d sc (.e o) st = some (.v ov, s1)) (h2 : ev p n d sc (.e i) s1 = some (.v iv, s2)) (h3 : subV p s2.h ov iv = some v) : ev p (n + 1) d sc (.e x) st = some (.v v, s2) := by
  show evE p (ev p n d) sc st x = _
  unfold evE
  rw [hk]; simp only [h1, h2, asV, h3]
theorem ev_tup {x : Expr} {es : List Expr} {vs : List V} (hk : kindE x = .tup es) (hl : Nat.ble es.length 1000 = true) (h1 : evs (ev p n d) sc es st = some (vs, s1)) : ev p (n + 1) d sc (.e x) st = some (.v (.tup vs), s1) := by
  show evE p (ev p n d) sc st x = _
  unfold evE
  rw [hk]; simp only [hl, h1]
theorem ev_bin {x l r : Expr} {op : Operator} {a b v : V} (hk : kindE x = .bin l op r) (h1 : ev p n d sc (.e l) st = some (.v a, s1)) (h2 : ev p n d sc (.e r) s1 = some (.v b, s2)) (h3 : binV s2.h op a b = some v) : ev p (n + 1) d sc (.e x) st = some (.v v, s2) := by
  show evE p (ev p n d) sc st x = _
  unfold evE
  rw [hk]; simp only [h1, h2, asV, h3]
theorem ev_ifx {x t b o : Expr} {c : Bool} {r : Option (Out × St)} (hk : kindE x = .ifx t b o) (h1 : ev p n d sc (.t t) st = some (.b c, s1)) (h2 : ev p n d sc (.e (cond c b o)) s1 = r) : ev p (n + 1) d sc (.e x) st = r := by
  show evE p (ev p n d) sc st x = _
  unfold evE
  rw [hk]; simp only [h1, asB]
  (first | exact Mine.ns c | exact Mine.ft c | exact Mine.sn c | exact Mine.tf c | cases c) <;> exact h2
theorem ev_call {x f : Expr} {args : List Expr} {fv : V} {vs : List V} {r : Option (Out × St)} (hk : kindE x = .call f args) (hl : Nat.ble args.length 20 = true) (h1 : ev p n d sc (.e f) st = some (.v fv, s1)) (hc : calB p fv = true) (h2 : evs (ev p n d) sc args s1 = some (vs, s2)) (h3 : ev p n d sc (.c fv vs none) s2 = r) : ev p (n + 1) d sc (.e x) st = r := by
  show evE p (ev p n d) sc st x = _
  unfold evE
  rw [hk]; simp only [hl, h1, asV, hc, h2, h3]
theorem ev_meth {x o : Expr} {a : Str} {ap ps : Pos} {args : List Expr} {ov f : V} {vs : List V} {r : Option (Out × St)} (hk : kindE x = .meth o a ap args ps) (hl : (plainBase o && Nat.ble args.length 20 && Nat.beq ap.endLine ps.line) = true) (h1 : ev p n d sc (.e o) st = some (.v ov, s1)) (hm : methT p s1.h ov a = some (f, true)) (hc : calB p f = true) (h2 : evs (ev p n d) sc args s1 = some (vs, s2)) (h3 : ev p n d sc (.c f (ov :: vs) none) s2 = r) : ev p (n + 1) d sc (.e x) st = r := by
  show evE p (ev p n d) sc st x = _
  unfold evE
  rw [hk]; simp only [hl, h1, asV, hm, hc, h2, h3]
theorem evs_one {x : Expr} {v : V} (h1 : ev p n d sc (.e x) st = some (.v v, s1)) : evs (ev p n d) sc [x] st = some ([v], s1) := by
  unfold evs evs
  simp only [h1, asV]
theorem evs_cons {x : Expr} {r : List Expr} {v : V} {vs : List V} (h1 : ev p n d sc (.e x) st = some (.v v, s1)) (h2 : evs (ev p n d) sc r s1 = some (vs, s2)) : evs (ev p n d) sc (x :: r) st = some (v :: vs, s2) := by
  unfold evs
  simp only [h1, asV, h2]
theorem ev_seq {x : Stmt} {r : List Stmt} {o : Option (Out × St)} (h1 : evS p (ev p n d) sc st x = some (.nx, s1)) (h2 : ev p n d sc (.s r) s1 = o) : ev p (n + 1) d sc (.s (x :: r)) st = o := by
  show (match evS p (ev p n d) sc st x with
    | some (.nx, st) => ev p n d sc (.s r) st
    | some (.ret v, st) => some (.f (.ret v), st)
    | Option.none => Option.none) = _
  rw [h1]; exact h2
theorem ev_ret {x : Stmt} {r : List Stmt} {v : V} (h1 : evS p (ev p n d) sc st x = some (.ret v, s1)) : ev p (n + 1) d sc (.s (x :: r)) st = some (.f (.ret v), s1) := by
  show (match evS p (ev p n d) sc st x with
    | some (.nx, st) => ev p n d sc (.s r) st
    | some (.ret v, st) => some (.f (.ret v), st)
    | Option.none => Option.none) = _
  rw [h1]
theorem evS_ret {x : Stmt} {e : Expr} {v : V} (hk : kindS x = .ret e) (h1 : ev p n d sc (.e e) st = some (.v v, s1)) : evS p (ev p n d) sc st x = some (.ret v, s1) := by
  unfold evS
  rw [hk]; simp only [h1, asV]
theorem evS_expr {x : Stmt} {e : Expr} {v : V} (hk : kindS x = .expr e) (h1 : ev p n d sc (.e e) st = some (.v v, s1)) : evS p (ev p n d) sc st x = some (.nx, s1) := by
  unfold evS
  rw [hk]; simp only [h1, asV]
theorem evS_asg {x : Stmt} {t e : Expr} {v : V} (hk : kindS x = .asg t e) (hc : isComp e = false) (h1 : ev p n d sc (.e e) st = some (.v v, s1)) (h2 : assignV p (ev p n d) sc t v s1 = some s2) : evS p (ev p n d) sc st x = some (.nx, s2) := by
  unfold evS
  rw [hk]; simp only [hc, h1, asV, h2]
theorem evS_for {x : Stmt} {y : Str} {py : Pos} {it : Expr} {b : List Stmt} {iv : V} {vs : List V} {h : List MO} {f : Fl} (hk : kindS x = .fr y py it b) (h1 : ev p n d sc (.e it) st = some (.v iv, s1)) (h2 : items s1.h iv = some (vs, h)) (h3 : ev p n d sc (.f y py vs b) ⟨s1.l, h⟩ = some (.f f, s2)) : evS p (ev p n d) sc st x = some (f, s2) := by
  unfold evS
  rw [hk]; simp only [h1, asV, h2, h3, asF]
theorem ev_cmp2 {l x y : Expr} {o1 o2 : CmpOp} {q : Pos} {a b c : V} {r1 r2 : Bool} (hm : lastMarks [o1, o2] [x, y] = false) (h1 : ev p n d sc (.e l) st = some (.v a, s1)) (h2 : ev p n d sc (.e x) s1 = some (.v b, s2)) (c1 : cmpV p s2.h o1 a b = some r1) (h3 : ev p n d sc (.e y) s2 = some (.v c, s2)) (c2 : cmpV p s2.h o2 b c = some r2) : ev p (n + 1) d sc (.t (.Compare l [o1, o2] [x, y] q)) st = some (.b (r1 && r2), s2) := by
  show (match lastMarks [o1, o2] [x, y] with
    | false => (match asV (ev p n d sc (.e l) st) with
      | some (a, st) => outB (chain p (ev p n d) sc a [o1, o2] [x, y] st)
      | Option.none => Option.none)
    | true => Option.none) = _
  rw [hm]
  simp only [h1, asV, chain, h2, c1]
  cases r1 with
  | false => rfl
  | true => simp only [h3, c2]; rfl
end
/-! ## the pieces of the loop -/
noncomputable def asgX (x : Stmt) : Expr := kidS 0 x
noncomputable def asgT (x : Stmt) : Expr := kidS 1 x
noncomputable def expX (x : Stmt) : Expr := kidS 0 x
noncomputable def ifT (x : Expr) : Expr := kid 0 x
noncomputable def ifB (x : Expr) : Expr := kid 1 x
noncomputable def ifO (x : Expr) : Expr := kid 2 x
noncomputable def cmL (x : Expr) : Expr := kid 0 x
noncomputable def cmC (n : Nat) (x : Expr) : Expr := kid (n + 1) x
noncomputable def suO (x : Expr) : Expr := kid 0 x
noncomputable def suI (x : Expr) : Expr := kid 1 x
noncomputable def caF (x : Expr) : Expr := kid 0 x
noncomputable def atO (x : Expr) : Expr := kid 0 x
noncomputable def tuE (n : Nat) (x : Expr) : Expr := kid n x
noncomputable def biL (x : Expr) : Expr := kid 0 x
noncomputable def biR (x : Expr) : Expr := kid 1 x
noncomputable def foB (x : Stmt) : List Stmt := subS x
noncomputable def foI (x : Stmt) : Expr := kidS 1 x
noncomputable def foT (x : Stmt) : Expr := kidS 0 x
noncomputable def scL : Scope := (fdef 64).sc
noncomputable def lpS : Stmt := lrB.getD 1 default
noncomputable def lpB : List Stmt := foB lpS
noncomputable def b1S : Stmt := lpB.getD 0 default
noncomputable def b2S : Stmt := lpB.getD 1 default
noncomputable def if1 : Expr := asgX b1S
noncomputable def if2 : Expr := ifO if1
noncomputable def t1X : Expr := ifT if1
noncomputable def t2X : Expr := ifT if2
noncomputable def chX : Expr := cmC 0 t1X
noncomputable def waX : Expr := suO chX
noncomputable def apX : Expr := expX b2S
noncomputable def toX : Expr := argAt 0 apX
noncomputable def tpX : Expr := argAt 2 toX
end Mine

end
section -- U8
open PySem PySem.W PyProof.Rows
set_option maxHeartbeats 0
namespace Mine
/-- the parameters of the run of _law_read -/
noncomputable def sgL (S : List V → List MO → Option (V × List MO)) (a : Addr) (args : List V) (h : List MO) : Option (V × List MO) := match Nat.beq a 408 with
  | true => S args h
  | false => none
noncomputable def pL (S : List V → List MO → Option (V × List MO)) : Par := { par0 with sg := sgL S, sd := 59 }
/-! ## the code's pieces, as they are -/
noncomputable def posE (x : Expr) : Pos := x.pos
theorem k_lp : lrB = [lrB.getD 0 default, lpS, lrB.getD 2 default] := by kernel_rfl
theorem k_b : lpB = [b1S, b2S] := by kernel_rfl
theorem k_b1 : kindS b1S = .asg (asgT b1S) if1 := by kernel_rfl
theorem k_b2 : kindS b2S = .expr apX := by kernel_rfl
theorem k_if1 : kindE if1 = .ifx t1X (ifB if1) if2 := by kernel_rfl
theorem k_if2 : kindE if2 = .ifx t2X (ifB if2) (ifO if2) := by kernel_rfl
theorem k_t1 : t1X = .Compare (cmL t1X) [.LtE, .LtE] [chX, cmC 1 t1X] (posE t1X) := by kernel_rfl
theorem k_t2 : t2X = .Compare (cmL t2X) [.LtE, .LtE] [cmC 0 t2X, cmC 1 t2X] (posE t2X) := by kernel_rfl
theorem k_ch : kindE chX = .sub waX (suI chX) := by kernel_rfl
theorem k_ch2 : kindE (cmC 0 t2X) = .sub (suO (cmC 0 t2X)) (suI (cmC 0 t2X)) := by kernel_rfl
theorem k_wa : kindE waX = .sub (suO waX) (suI waX) := by kernel_rfl
theorem k_wa2 : kindE (suO (cmC 0 t2X)) = .sub (suO (suO (cmC 0 t2X))) (suI (suO (cmC 0 t2X))) := by kernel_rfl
theorem k_wa3 : kindE (argAt 1 toX) = .sub (suO (argAt 1 toX)) (suI (argAt 1 toX)) := by kernel_rfl
theorem k_to : kindE toX = .call (caF toX) [argAt 0 toX, argAt 1 toX, tpX] := by kernel_rfl
theorem k_tp : kindE tpX = .tup [tuE 0 tpX, tuE 1 tpX] := by kernel_rfl
theorem k_bi : kindE (tuE 1 tpX) = .bin (biL (tuE 1 tpX)) .Add (biR (tuE 1 tpX)) := by kernel_rfl
theorem k_ap : kindE apX = .meth (atO (caF apX)) "append" (posE (caF apX)) [toX] (posE apX) := by kernel_rfl
noncomputable abbrev lcl (W : List V) (i : Nat) (rest : List (Str × V)) : List (Str × V) := ("words", .lst W) :: ("tokens", .loc 0) :: ("at", .int (.ofNat i)) :: rest
/-- a name that is read off the locals -/
theorem ev_nm {p : Par} {n d : Nat} {st : St} {x : Expr} {v : V} (h : evE p (fun _ _ _ => none) scL st x = some (.v v, st)) (hk : ∃ y, kindE x = .name y) : ev p (n + 1) d scL (.e x) st = some (.v v, st) := by
  obtain ⟨y, hk⟩ := hk
  show evE p (ev p n d) scL st x = _
  unfold evE at h ⊢
  rw [hk] at h ⊢
  exact h
theorem ev_cn {p : Par} {n d : Nat} {st : St} {x : Expr} {v : V} {c : Const} (hk : kindE x = .const c) (hc : constV c = some v) : ev p (n + 1) d scL (.e x) st = some (.v v, st) := by
  show evE p (ev p n d) scL st x = _
  unfold evE
  rw [hk]; simp only [hc]
/-! ## a token is made -/
noncomputable def inT : FR := mdef 61 0
noncomputable def inB : List Stmt := inT.body
noncomputable def atA : Expr → Str
  | .Attribute _ a _ => a
  | _ => default
noncomputable abbrev tokL (m : Nat) (k w t b : V) : List (Str × V) := [("self", .loc m), ("kind", k), ("worth", w), ("at", t), ("is_in_a", b)]
theorem ev_attr {p : Par} {C : Addr} {sc : Scope} {n d : Nat} {l : List (Str × V)} {h : List MO} {s : Stmt} {t y o : Expr} {a : Str} {q : Pos} {ns : List Str} {vs : List V} {v : V} (hk : kindS s = .asg t y) (hc : isComp y = false) (ht : t = .Attribute o a q)
    (hy : ev p n d sc (.e y) ⟨l, h ++ [.obj C ns vs]⟩ = some (.v v, ⟨l, h ++ [.obj C ns vs]⟩)) (ho : ev p n d sc (.e o) ⟨l, h ++ [.obj C ns vs]⟩ = some (.v (.loc h.length), ⟨l, h ++ [.obj C ns vs]⟩)) (hs : (p.sa C a && Nat.ble ns.length 100) = true) :
    evS p (ev p n d) sc ⟨l, h ++ [.obj C ns vs]⟩ s = some (.nx, ⟨l, h ++ [.obj C (fput a v ns vs).1 (fput a v ns vs).2]⟩) := by
  refine evS_asg hk hc hy ?_
  subst ht
  show (match asV (ev p n d sc (.e o) ⟨l, h ++ [.obj C ns vs]⟩) with
    | some (ov, st) => (match locOf ov with
      | some n => putAttr p a v n st
      | Option.none => Option.none)
    | Option.none => Option.none) = _
  rw [ho]
  have e1 : (h ++ [MO.obj C ns vs])[h.length]? = some (.obj C ns vs) := by simp
  have e2 : ∀ m, setAt (h ++ [MO.obj C ns vs]) h.length m = h ++ [m] := fun m => by unfold setAt; simp
  show putAttr p a v h.length ⟨l, h ++ [.obj C ns vs]⟩ = _
  unfold putAttr
  simp only [e1, hs, e2]
theorem ev_nmG {p : Par} {n d : Nat} {sc : Scope} {st : St} {x : Expr} {y : Str} {v : V} (hk : kindE x = .name y) (h : nameV p sc st y = some v) : ev p (n + 1) d sc (.e x) st = some (.v v, st) := by
  show evE p (ev p n d) sc st x = _
  unfold evE
  rw [hk]; simp only [h]
theorem k_in : inB = [inB.getD 0 default, inB.getD 1 default, inB.getD 2 default, inB.getD 3 default] := by kernel_rfl
theorem k_is (j : Nat) (hj : j < 4) : kindS (inB.getD j default) = .asg (asgT (inB.getD j default)) (asgX (inB.getD j default)) ∧ isComp (asgX (inB.getD j default)) = false ∧ kindE (atO (asgT (inB.getD j default))) = .name "self" ∧
    asgT (inB.getD j default) = .Attribute (atO (asgT (inB.getD j default))) (["kind", "worth", "at", "is_in_a"].getD j default) (posE (asgT (inB.getD j default))) ∧ kindE (asgX (inB.getD j default)) = .name (["kind", "worth", "at", "is_in_a"].getD j default) := by
  match j, hj with
  | 0, _ => exact ⟨by kernel_rfl, by kernel_rfl, by kernel_rfl, by kernel_rfl, by kernel_rfl⟩
  | 1, _ => exact ⟨by kernel_rfl, by kernel_rfl, by kernel_rfl, by kernel_rfl, by kernel_rfl⟩
  | 2, _ => exact ⟨by kernel_rfl, by kernel_rfl, by kernel_rfl, by kernel_rfl, by kernel_rfl⟩
  | 3, _ => exact ⟨by kernel_rfl, by kernel_rfl, by kernel_rfl, by kernel_rfl, by kernel_rfl⟩
section
variable {S : List V → List MO → Option (V × List MO)} {n d i : Nat} {W acc : List V} {rest : List (Str × V)} {h : List MO}
theorem e_words (x : Expr) (hx : kindE x = .name "words") : ev (pL S) (n + 1) d scL (.e x) ⟨lcl W i rest, h⟩ = some (.v (.lst W), ⟨lcl W i rest, h⟩) := by
  refine ev_nm ?_ ⟨_, hx⟩
  unfold evE
  rw [hx]
  kernel_rfl
theorem e_at (x : Expr) (hx : kindE x = .name "at") : ev (pL S) (n + 1) d scL (.e x) ⟨lcl W i rest, h⟩ = some (.v (.int (.ofNat i)), ⟨lcl W i rest, h⟩) := by
  refine ev_nm ?_ ⟨_, hx⟩
  unfold evE
  rw [hx]
  kernel_rfl
theorem e_wa {x : Expr} {w : Str} (hk : kindE x = .sub (suO x) (suI x)) (h1 : kindE (suO x) = .name "words") (h2 : kindE (suI x) = .name "at") (hw : nthV W i = some (.str w)) : ev (pL S) (n + 2) d scL (.e x) ⟨lcl W i rest, h⟩ = some (.v (.str w), ⟨lcl W i rest, h⟩) :=
  ev_sub hk (e_words _ h1) (e_at _ h2) hw
theorem e_ch {x : Expr} {w : Str} {c : Nat} {r : List Nat} (hk : kindE x = .sub (suO x) (suI x)) (h0 : kindE (suO x) = .sub (suO (suO x)) (suI (suO x))) (h1 : kindE (suO (suO x)) = .name "words") (h2 : kindE (suI (suO x)) = .name "at") (hz : kindE (suI x) = .const (.int 0)) (hw : nthV W i = some (.str w)) (hc : w = ⟨(c :: r).toArray⟩) : ev (pL S) (n + 3) d scL (.e x) ⟨lcl W i rest, h⟩ = some (.v (.str ⟨#[c]⟩), ⟨lcl W i rest, h⟩) := by
  refine ev_sub hk (e_wa h0 h1 h2 hw) (ev_cn (n := n + 1) hz rfl) ?_
  subst hc
  rfl
noncomputable def kindC (c : Nat) : Str := match sleB [65] [c] && sleB [c] [90] with
  | true => "word"
  | false => (match sleB [48] [c] && sleB [c] [57] with | true => "number" | false => "sign")
theorem e_t1 {w : Str} {c : Nat} {r : List Nat} (hw : nthV W i = some (.str w)) (hc : w = ⟨(c :: r).toArray⟩) : ev (pL S) (n + 4) d scL (.t t1X) ⟨lcl W i rest, h⟩ = some (.b (sleB [65] [c] && sleB [c] [90]), ⟨lcl W i rest, h⟩) := by
  rw [k_t1]
  exact ev_cmp2 (by kernel_rfl) (ev_cn (n := n + 2) (c := .str "A") (by kernel_rfl) rfl) (e_ch (w := w) (r := r) k_ch k_wa (by kernel_rfl) (by kernel_rfl) (by kernel_rfl) hw hc) rfl (ev_cn (n := n + 2) (c := .str "Z") (by kernel_rfl) rfl) rfl
theorem e_t2 {w : Str} {c : Nat} {r : List Nat} (hw : nthV W i = some (.str w)) (hc : w = ⟨(c :: r).toArray⟩) : ev (pL S) (n + 4) d scL (.t t2X) ⟨lcl W i rest, h⟩ = some (.b (sleB [48] [c] && sleB [c] [57]), ⟨lcl W i rest, h⟩) := by
  rw [k_t2]
  exact ev_cmp2 (by kernel_rfl) (ev_cn (n := n + 2) (c := .str "0") (by kernel_rfl) rfl) (e_ch (w := w) (r := r) k_ch2 k_wa2 (by kernel_rfl) (by kernel_rfl) (by kernel_rfl) hw hc) rfl (ev_cn (n := n + 2) (c := .str "9") (by kernel_rfl) rfl) rfl
theorem e_kind {w : Str} {c : Nat} {r : List Nat} (hw : nthV W i = some (.str w)) (hc : w = ⟨(c :: r).toArray⟩) : ev (pL S) (n + 6) d scL (.e if1) ⟨lcl W i rest, h⟩ = some (.v (.str (kindC c)), ⟨lcl W i rest, h⟩) := by
  refine ev_ifx k_if1 (e_t1 (n := n + 1) hw hc) ?_
  unfold kindC
  generalize (sleB [65] [c] && sleB [c] [90]) = u
  cases u with
  | true => exact ev_cn (n := n + 4) (c := .str "word") (x := ifB if1) (by kernel_rfl) rfl
  | false =>
    refine ev_ifx (x := if2) k_if2 (e_t2 (n := n) hw hc) ?_
    generalize (sleB [48] [c] && sleB [c] [57]) = u
    cases u with
    | true => exact ev_cn (n := n + 3) (c := .str "number") (x := ifB if2) (by kernel_rfl) rfl
    | false => exact ev_cn (n := n + 3) (c := .str "sign") (x := ifO if2) (by kernel_rfl) rfl
/-- the token that is made -/
noncomputable def tokA (k w : Str) (i : Nat) : V := .obj 619 ["kind", "worth", "at", "is_in_a"] [.str k, .str w, .tup [.int 1, .int (.ofNat (i + 1))], .bool false]
theorem e_kd {k : Str} (x : Expr) (hx : kindE x = .name "kind") : ev (pL S) (n + 1) d scL (.e x) ⟨lcl W i [("kind", .str k)], h⟩ = some (.v (.str k), ⟨lcl W i [("kind", .str k)], h⟩) := by
  refine ev_nm ?_ ⟨_, hx⟩
  unfold evE
  rw [hx]
  kernel_rfl
theorem i_set {k w t b : V} {j : Nat} (hj : j < 4) {ns : List Str} {vs : List V} {v : V} (hv : nameV (pL S) inT.sc ⟨tokL h.length k w t b, h ++ [.obj 619 ns vs]⟩ (["kind", "worth", "at", "is_in_a"].getD j default) = some v) (hs : ((pL S).sa 619 (["kind", "worth", "at", "is_in_a"].getD j default) && Nat.ble ns.length 100) = true) :
    evS (pL S) (ev (pL S) (n + 1) d) inT.sc ⟨tokL h.length k w t b, h ++ [.obj 619 ns vs]⟩ (inB.getD j default) = some (.nx, ⟨tokL h.length k w t b, h ++ [.obj 619 (fput (["kind", "worth", "at", "is_in_a"].getD j default) v ns vs).1 (fput (["kind", "worth", "at", "is_in_a"].getD j default) v ns vs).2]⟩) := by
  obtain ⟨a1, a2, a3, a4, a5⟩ := k_is j hj
  exact ev_attr a1 a2 a4 (ev_nmG a5 hv) (ev_nmG a3 (by kernel_rfl)) hs
theorem i_body {k w t b : V} : ev (pL S) (n + 6) d inT.sc (.s inB) ⟨tokL h.length k w t b, h ++ [.obj 619 [] []]⟩ = some (.f .nx, ⟨tokL h.length k w t b, h ++ [.obj 619 ["kind", "worth", "at", "is_in_a"] [k, w, t, b]]⟩) := by
  rw [k_in]
  refine ev_seq (i_set (n := n + 4) (j := 0) (v := k) (by decide) (by kernel_rfl) (by kernel_rfl)) ?_
  refine ev_seq (i_set (n := n + 3) (j := 1) (v := w) (by decide) (by kernel_rfl) (by kernel_rfl)) ?_
  refine ev_seq (i_set (n := n + 2) (j := 2) (v := t) (by decide) (by kernel_rfl) (by kernel_rfl)) ?_
  refine ev_seq (i_set (n := n + 1) (j := 3) (v := b) (by decide) (by kernel_rfl) (by kernel_rfl)) ?_
  kernel_rfl
theorem i_tok {sc : Scope} {k w t : V} {l : List (Str × V)} : ev (pL S) (n + 7) (d + 60) sc (.c (.val (.ref 619)) [k, w, t] none) ⟨l, h⟩ = some (.v (.obj 619 ["kind", "worth", "at", "is_in_a"] [k, w, t, .bool false]), ⟨l, h ++ [.dead]⟩) := by
  have e : ev (pL S) (n + 7) (d + 60) sc (.c (.val (.ref 619)) [k, w, t] none) ⟨l, h⟩ = outV (match asF (ev (pL S) (n + 6) (d + 59) inT.sc (.s inB) ⟨tokL h.length k w t (.bool false), h ++ [.obj 619 [] []]⟩) with
            | some (fl, st') => (match noneFl fl, true with
              | true, true => (match st'.h[h.length]? with
                | some (.obj C ns vs) => some (.obj C ns vs, (⟨l, st'.h.set h.length .dead⟩ : St))
                | _ => Option.none)
              | true, false => some (.loc h.length, ⟨l, st'.h⟩)
              | false, _ => Option.none)
            | Option.none => Option.none) := by kernel_rfl
  rw [e, i_body]
  have e1 : ∀ m : MO, (h ++ [m])[h.length]? = some m := fun m => by simp
  have e2 : ∀ m : MO, (h ++ [m]).set h.length .dead = h ++ [.dead] := fun m => by simp
  simp only [asF, noneFl, e1, e2, outV]
theorem e_tok {w k : Str} (hw : nthV W i = some (.str w)) (hi : small (.ofNat i) = true) : ev (pL S) (n + 12) (d + 61) scL (.e toX) ⟨lcl W i [("kind", .str k)], h⟩ = some (.v (tokA k w i), ⟨lcl W i [("kind", .str k)], h ++ [.dead]⟩) := by
  refine ev_call (s2 := ⟨lcl W i [("kind", .str k)], h⟩) (fv := .val (.ref 619)) (vs := [.str k, .str w, .tup [.int 1, .int (.ofNat (i + 1))]]) k_to (by kernel_rfl) (ev_nm (n := n + 10) (by kernel_rfl) ⟨"Token", by kernel_rfl⟩) (by kernel_rfl) ?_ ?_
  · refine evs_cons (e_kd (n := n + 10) _ (by kernel_rfl)) (evs_cons (e_wa (n := n + 9) k_wa3 (by kernel_rfl) (by kernel_rfl) hw) (evs_one ?_))
    refine ev_tup k_tp (by kernel_rfl) ?_
    refine evs_cons (ev_cn (n := n + 9) (c := .int 1) (by kernel_rfl) rfl) (evs_one ?_)
    refine ev_bin k_bi (e_at (n := n + 8) _ (by kernel_rfl)) (ev_cn (n := n + 8) (c := .int 1) (by kernel_rfl) rfl) ?_
    show (match small (Int.ofNat i) && small 1 with
      | true => some (V.int (Int.ofNat i + 1))
      | false => none) = _
    rw [hi]; rfl
  · exact i_tok (n := n + 4) (d := d + 1)
theorem e_app {w k : Str} {ds : List MO} (hw : nthV W i = some (.str w)) (hi : small (.ofNat i) = true) (hl : Nat.blt acc.length 10000 = true) : ev (pL S) (n + 14) (d + 61) scL (.e apX) ⟨lcl W i [("kind", .str k)], .lst acc :: ds⟩ = some (.v .none, ⟨lcl W i [("kind", .str k)], .lst (acc ++ [tokA k w i]) :: (ds ++ [.dead])⟩) := by
  refine ev_meth (ov := .loc 0) (f := .bi 10) k_ap (by kernel_rfl) (ev_nm (n := n + 12) (by kernel_rfl) ⟨"tokens", by kernel_rfl⟩) (by kernel_rfl) rfl (evs_one (e_tok (n := n + 1) (h := .lst acc :: ds) hw hi)) ?_
  show outV (match Nat.blt acc.length 10000 with
    | true => some (V.none, (⟨lcl W i [("kind", .str k)], setAt (.lst acc :: (ds ++ [.dead])) 0 (.lst (acc ++ [tokA k w i]))⟩ : St))
    | false => none) = _
  rw [hl]; rfl
/-- one turn of the loop -/
theorem e_body {w : Str} {c : Nat} {r : List Nat} {ds : List MO} (hr : rest = [] ∨ ∃ x : V, rest = [(("kind" : Str), x)]) (hw : nthV W i = some (.str w)) (hc : w = ⟨(c :: r).toArray⟩) (hi : small (.ofNat i) = true) (hl : Nat.blt acc.length 10000 = true) :
    ev (pL S) (n + 17) (d + 61) scL (.s lpB) ⟨lcl W i rest, .lst acc :: ds⟩ = some (.f .nx, ⟨lcl W i [("kind", .str (kindC c))], .lst (acc ++ [tokA (kindC c) w i]) :: (ds ++ [.dead])⟩) := by
  rw [k_b]
  refine ev_seq (s1 := ⟨lcl W i [("kind", .str (kindC c))], .lst acc :: ds⟩) (evS_asg (n := n + 16) k_b1 (by kernel_rfl) (e_kind (n := n + 10) hw hc) ?_) ?_
  · rcases hr with rfl | ⟨x, rfl⟩ <;> kernel_rfl
  · refine ev_seq (evS_expr (n := n + 15) k_b2 (e_app (n := n + 1) hw hi hl)) ?_
    rfl
end
end Mine

end
section -- U9
open PySem PySem.W PyProof.Rows
set_option maxHeartbeats 0
namespace Mine
theorem ev_dict {p : Par} {n d : Nat} {sc : Scope} {st : St} {x : Expr} (hk : kindE x = .dict) : ev p (n + 1) d sc (.e x) st = some (.v .any, st) := by
  show evE p (ev p n d) sc st x = _
  unfold evE
  rw [hk]
/-! ## a reader is made -/
noncomputable def inR : FR := mdef 59 0
noncomputable def inRB : List Stmt := inR.body
noncomputable abbrev rdL (m : Nat) (t a : V) : List (Str × V) := [("self", .loc m), ("tokens", t), ("at", a)]
theorem k_inR : inRB = [inRB.getD 0 default, inRB.getD 1 default, inRB.getD 2 default] := by kernel_rfl
theorem k_isR (j : Nat) (hj : j < 3) : kindS (inRB.getD j default) = .asg (asgT (inRB.getD j default)) (asgX (inRB.getD j default)) ∧ isComp (asgX (inRB.getD j default)) = false ∧ kindE (atO (asgT (inRB.getD j default))) = .name "self" ∧
    asgT (inRB.getD j default) = .Attribute (atO (asgT (inRB.getD j default))) (["tokens", "at", "named"].getD j default) (posE (asgT (inRB.getD j default))) := by
  match j, hj with
  | 0, _ => exact ⟨by kernel_rfl, by kernel_rfl, by kernel_rfl, by kernel_rfl⟩
  | 1, _ => exact ⟨by kernel_rfl, by kernel_rfl, by kernel_rfl, by kernel_rfl⟩
  | 2, _ => exact ⟨by kernel_rfl, by kernel_rfl, by kernel_rfl, by kernel_rfl⟩
theorem k_isR0 : kindE (asgX (inRB.getD 0 default)) = .name "tokens" := by kernel_rfl
theorem k_isR1 : kindE (asgX (inRB.getD 1 default)) = .name "at" := by kernel_rfl
theorem k_isR2 : kindE (asgX (inRB.getD 2 default)) = .dict := by kernel_rfl
section
variable {S : List V → List MO → Option (V × List MO)} {n d i : Nat} {W acc : List V} {rest : List (Str × V)} {h : List MO}
theorem r_set {t a : V} {j : Nat} (hj : j < 3) {ns : List Str} {vs : List V} {v : V} (hv : ev (pL S) (n + 1) d inR.sc (.e (asgX (inRB.getD j default))) ⟨rdL h.length t a, h ++ [.obj 589 ns vs]⟩ = some (.v v, ⟨rdL h.length t a, h ++ [.obj 589 ns vs]⟩)) (hs : ((pL S).sa 589 (["tokens", "at", "named"].getD j default) && Nat.ble ns.length 100) = true) :
    evS (pL S) (ev (pL S) (n + 1) d) inR.sc ⟨rdL h.length t a, h ++ [.obj 589 ns vs]⟩ (inRB.getD j default) = some (.nx, ⟨rdL h.length t a, h ++ [.obj 589 (fput (["tokens", "at", "named"].getD j default) v ns vs).1 (fput (["tokens", "at", "named"].getD j default) v ns vs).2]⟩) := by
  obtain ⟨a1, a2, a3, a4⟩ := k_isR j hj
  exact ev_attr a1 a2 a4 hv (ev_nmG a3 (by kernel_rfl)) hs
theorem r_body {t a : V} : ev (pL S) (n + 6) d inR.sc (.s inRB) ⟨rdL h.length t a, h ++ [.obj 589 [] []]⟩ = some (.f .nx, ⟨rdL h.length t a, h ++ [rdO t a]⟩) := by
  rw [k_inR]
  refine ev_seq (r_set (n := n + 4) (j := 0) (v := t) (by decide) (ev_nmG k_isR0 (by kernel_rfl)) (by kernel_rfl)) ?_
  refine ev_seq (r_set (n := n + 3) (j := 1) (v := a) (by decide) (ev_nmG k_isR1 (by kernel_rfl)) (by kernel_rfl)) ?_
  refine ev_seq (r_set (n := n + 2) (j := 2) (v := .any) (by decide) ?_ (by kernel_rfl)) ?_
  · exact ev_dict k_isR2
  kernel_rfl
theorem r_new {sc : Scope} {t : V} {l : List (Str × V)} : ev (pL S) (n + 7) (d + 60) sc (.c (.val (.ref 589)) [t] none) ⟨l, h⟩ = some (.v (.loc h.length), ⟨l, h ++ [rdO t (.int 0)]⟩) := by
  have e : ev (pL S) (n + 7) (d + 60) sc (.c (.val (.ref 589)) [t] none) ⟨l, h⟩ = outV (match asF (ev (pL S) (n + 6) (d + 59) inR.sc (.s inRB) ⟨rdL h.length t (.int 0), h ++ [.obj 589 [] []]⟩) with
            | some (fl, st') => (match noneFl fl, false with
              | true, true => (match st'.h[h.length]? with
                | some (.obj C ns vs) => some (.obj C ns vs, (⟨l, st'.h.set h.length .dead⟩ : St))
                | _ => Option.none)
              | true, false => some (.loc h.length, ⟨l, st'.h⟩)
              | false, _ => Option.none)
            | Option.none => Option.none) := by kernel_rfl
  rw [e, r_body]
  simp only [asF, noneFl, outV]
/-! ## the loop -/
noncomputable abbrev KW := List (Str × Str)
noncomputable def tkL : Nat → KW → List V
  | _, [] => []
  | i, q :: r => tokA q.1 q.2 i :: tkL (i + 1) r
noncomputable def kwOk (q : Str × Str) : Prop := ∃ c r, q.2 = ⟨(c :: r).toArray⟩ ∧ kindC c = q.1
noncomputable abbrev lmid (W : List V) (mid : List (Str × V)) : List (Str × V) := ("words", .lst W) :: ("tokens", .loc 0) :: mid
noncomputable def midOk (mid : List (Str × V)) : Prop := mid = [] ∨ ∃ x y : V, mid = [(("at" : Str), x), (("kind" : Str), y)]
theorem e_loop (px : Pos) : ∀ (kws : KW) (i : Nat) (acc : List V) (ds : List MO) (mid : List (Str × V)), midOk mid → (∀ j q, kws[j]? = some q → nthV W (i + j) = some (.str q.2) ∧ kwOk q) → i + kws.length ≤ 5000 → acc.length = i →
    ∃ mid', ev (pL S) (n + 18 + kws.length) (d + 61) scL (.f "at" px (rngL kws.length (.ofNat i)) lpB) ⟨lmid W mid, .lst acc :: ds⟩ = some (.f .nx, ⟨lmid W mid', .lst (acc ++ tkL i kws) :: (ds ++ List.replicate kws.length .dead)⟩)
  | [], i, acc, ds, mid, _, _, _, _ => ⟨mid, by
    show some (Out.f Fl.nx, (⟨lmid W mid, .lst acc :: ds⟩ : St)) = _
    simp [tkL]⟩
  | q :: kws, i, acc, ds, mid, hm, hk, hb, ha => by
    obtain ⟨hw, c, r, hc, hkc⟩ := hk 0 q rfl
    simp only [List.length_cons] at hb
    have hi : small (Int.ofNat i) = true := by
      show Nat.blt i 1000000000 = true
      exact Nat.blt_eq.mpr (by lia)
    have hl : Nat.blt acc.length 10000 = true := Nat.blt_eq.mpr (by lia)
    obtain ⟨mid', IH⟩ := e_loop px kws (i + 1) (acc ++ [tokA q.1 q.2 i]) (ds ++ [.dead]) [("at", .int (.ofNat i)), ("kind", .str q.1)] (.inr ⟨_, _, rfl⟩) (fun j q' h => by
      have := hk (j + 1) q' h
      rw [show i + 1 + j = i + (j + 1) by lia]
      exact this) (by lia) (by simp [ha])
    refine ⟨mid', ?_⟩
    have hput : ∃ rest, (rest = [] ∨ ∃ x : V, rest = [(("kind" : Str), x)]) ∧ sput "at" (.int (.ofNat i)) (lmid W mid) = lcl W i rest := by
      rcases hm with rfl | ⟨x, y, rfl⟩
      · exact ⟨[], .inl rfl, by kernel_rfl⟩
      · exact ⟨[("kind", y)], .inr ⟨_, rfl⟩, by kernel_rfl⟩
    obtain ⟨rest, hr, hp⟩ := hput
    have B := e_body (S := S) (n := n + 1 + kws.length) (d := d) (W := W) (i := i) (acc := acc) (ds := ds) hr hw hc hi hl
    rw [hkc] at B
    show (match mayStore scL "at" with
      | true => (match asF (ev (pL S) (n + 18 + kws.length) (d + 61) scL (.s lpB) ⟨sput "at" (.int (.ofNat i)) (lmid W mid), .lst acc :: ds⟩) with
        | some (.nx, st) => ev (pL S) (n + 18 + kws.length) (d + 61) scL (.f "at" px (rngL kws.length (Int.ofNat i + 1)) lpB) st
        | some (.ret v, st) => some (.f (.ret v), st)
        | Option.none => Option.none)
      | false => Option.none) = _
    have hms : mayStore scL "at" = true := by kernel_rfl
    rw [hms, hp, show n + 18 + kws.length = n + 1 + kws.length + 17 by lia, B]
    simp only [asF]
    rw [show n + 1 + kws.length + 17 = n + 18 + kws.length by lia]
    refine Eq.trans IH ?_
    have e1 : acc ++ [tokA q.1 q.2 i] ++ tkL (i + 1) kws = acc ++ tkL i (q :: kws) := by
      show _ = acc ++ (tokA q.1 q.2 i :: tkL (i + 1) kws)
      simp
    have e2 : ds ++ [MO.dead] ++ List.replicate kws.length .dead = ds ++ List.replicate (q :: kws).length .dead := by
      rw [List.length_cons, List.replicate_succ]; simp
    rw [e1, e2]
end
end Mine

end
section -- U10
open PySem PySem.W PyProof.Rows
set_option maxHeartbeats 0
namespace Mine
noncomputable def namP : Expr → Pos
  | .Name _ p => p
  | _ => default
noncomputable def lenX : Expr := argAt 0 (foI lpS)
noncomputable def retL : Expr := retX (lrB.getD 2 default)
noncomputable def rdX : Expr := argAt 0 retL
theorem k_for : kindS lpS = .fr "at" (namP (foT lpS)) (foI lpS) lpB := by kernel_rfl
theorem k_it : kindE (foI lpS) = .call (caF (foI lpS)) [lenX] := by kernel_rfl
theorem k_len : kindE lenX = .call (caF lenX) [argAt 0 lenX] := by kernel_rfl
theorem k_ret : kindS (lrB.getD 2 default) = .ret retL := by kernel_rfl
theorem k_retL : kindE retL = .call (caF retL) [rdX, argAt 1 retL] := by kernel_rfl
theorem k_rd : kindE rdX = .call (caF rdX) [argAt 0 rdX] := by kernel_rfl
theorem callV_sg {p : Par} {d : Nat} {ih : Ev} {a : Addr} {args : List V} {st : St} {v : V} {h' : List MO} (hd : Nat.ble p.sd d = true) (hs : p.sg a args st.h = some (v, h')) : callV p d ih (.val (.ref a)) args none st = some (v, ⟨st.l, h'⟩) := by
  unfold callV
  simp only [hd, hs]
theorem items_rng {h : List MO} {n : Nat} (hn : n ≤ 5000) : items h (.rng 0 (.ofNat n)) = some (rngL n 0, h) := by
  have e : ((Int.ofNat n) - 0).toNat = n := by simp
  show (bif small 0 && small (Int.ofNat n) && Nat.ble (Int.ofNat n - 0).toNat 10000 then some (rngL (Int.ofNat n - 0).toNat 0) else none).bind (fun l => some (l, h)) = _
  rw [e]
  have h1 : small (Int.ofNat n) = true := Nat.blt_eq.mpr (by lia)
  have h2 : Nat.ble n 10000 = true := Nat.ble_eq.mpr (by lia)
  rw [h1, h2]; rfl
section
variable {S : List V → List MO → Option (V × List MO)} {n d : Nat} {W : List V} {mid : List (Str × V)} {h : List MO}
theorem l_len (hl : W.length ≤ 5000) : ev (pL S) (n + 2) (d + 61) scL (.e lenX) ⟨lmid W mid, h⟩ = some (.v (.int (.ofNat W.length)), ⟨lmid W mid, h⟩) := by
  refine ev_call (fv := .bi 0) (s2 := ⟨lmid W mid, h⟩) (vs := [.lst W]) k_len (by kernel_rfl) (ev_nm (n := n) (by kernel_rfl) ⟨"len", by kernel_rfl⟩) (by kernel_rfl) (evs_one (ev_nm (n := n) (by kernel_rfl) ⟨"words", by kernel_rfl⟩)) ?_
  show outV (match Nat.blt W.length 10000 with
    | true => some (V.int (.ofNat W.length), (⟨lmid W mid, h⟩ : St))
    | false => none) = _
  rw [Nat.blt_eq.mpr (by lia)]; rfl
theorem l_it (hl : W.length ≤ 5000) : ev (pL S) (n + 3) (d + 61) scL (.e (foI lpS)) ⟨lmid W mid, h⟩ = some (.v (.rng 0 (.ofNat W.length)), ⟨lmid W mid, h⟩) := by
  refine ev_call (fv := .bi 1) (s2 := ⟨lmid W mid, h⟩) (vs := [.int (.ofNat W.length)]) k_it (by kernel_rfl) (ev_nm (n := n + 1) (by kernel_rfl) ⟨"range", by kernel_rfl⟩) (by kernel_rfl) (evs_one (l_len (n := n) hl)) ?_
  rfl
theorem l_ret {c : V} {h' : List MO} (hS : S [.loc h.length, isnV] (h ++ [rdO (.loc 0) (.int 0)]) = some (c, h')) : evS (pL S) (ev (pL S) (n + 12) (d + 61)) scL ⟨lmid W mid, h⟩ (lrB.getD 2 default) = some (.ret c, ⟨lmid W mid, h'⟩) := by
  refine evS_ret k_ret ?_
  refine ev_call (fv := .val (.ref 408)) (vs := [.loc h.length, isnV]) (s2 := ⟨lmid W mid, h ++ [rdO (.loc 0) (.int 0)]⟩) k_retL (by kernel_rfl) (ev_nm (n := n + 10) (by kernel_rfl) ⟨"read_condition", by kernel_rfl⟩) (by kernel_rfl) ?_ ?_
  · refine evs_cons (s1 := ⟨lmid W mid, h ++ [rdO (.loc 0) (.int 0)]⟩) ?_ (evs_one ?_)
    · refine ev_call (fv := .val (.ref 589)) (s2 := ⟨lmid W mid, h⟩) (vs := [.loc 0]) k_rd (by kernel_rfl) (ev_nm (n := n + 9) (by kernel_rfl) ⟨"Reader", by kernel_rfl⟩) (by kernel_rfl) (evs_one (ev_nm (n := n + 9) (by kernel_rfl) ⟨"tokens", by kernel_rfl⟩)) ?_
      exact r_new (n := n + 3) (d := d + 1)
    · kernel_rfl
  · have e : ev (pL S) (n + 11) (d + 61) scL (.c (.val (.ref 408)) [.loc h.length, isnV] none) ⟨lmid W mid, h ++ [rdO (.loc 0) (.int 0)]⟩ = outV (callV (pL S) (d + 60) (ev (pL S) (n + 10) (d + 60)) (.val (.ref 408)) [.loc h.length, isnV] none ⟨lmid W mid, h ++ [rdO (.loc 0) (.int 0)]⟩) := rfl
    rw [e]
    rw [callV_sg (v := c) (h' := h') (Nat.ble_eq.mpr (by show 59 ≤ d + 60; lia)) hS]
    rfl
theorem l_for {kws : KW} (hk : ∀ q ∈ kws, kwOk q) (hl : kws.length ≤ 5000) : ∃ mid', evS (pL S) (ev (pL S) (n + 18 + kws.length) (d + 61)) scL ⟨lmid (kws.map fun q => .str q.2) [], [.lst []]⟩ lpS = some (.nx, ⟨lmid (kws.map fun q => .str q.2) mid', .lst (tkL 0 kws) :: List.replicate kws.length .dead⟩) := by
  have hW : (kws.map fun q => V.str q.2).length = kws.length := List.length_map ..
  obtain ⟨mid', E⟩ := e_loop (S := S) (n := n) (d := d) (W := kws.map fun q => .str q.2) (namP (foT lpS)) kws 0 [] [] [] (.inl rfl) (fun j q h => by
    have hj := (List.getElem?_eq_some_iff.mp h).1
    refine ⟨?_, hk q (List.mem_of_getElem? h)⟩
    rw [Nat.zero_add]
    unfold nthV
    rw [Nat.blt_eq.mpr (by lia)]
    simp only []
    rw [List.getElem?_map, h]; rfl) (by lia) rfl
  refine ⟨mid', evS_for (s1 := ⟨lmid (kws.map fun q => .str q.2) [], [.lst []]⟩) k_for (l_it (n := n + 15 + kws.length) (by lia) |> fun q => by rw [show n + 18 + kws.length = n + 15 + kws.length + 3 by lia]; exact q) (items_rng (by lia)) ?_⟩
  rw [hW]
  exact E
/-- the whole function -/
theorem law_read_ev {kws : KW} {c : V} {h' : List MO} (hk : ∀ q ∈ kws, kwOk q) (hl : kws.length ≤ 5000)
    (hS : S [.loc (kws.length + 1), isnV] (.lst (tkL 0 kws) :: (List.replicate kws.length .dead ++ [rdO (.loc 0) (.int 0)])) = some (c, h')) :
    ev (pL S) (n + 22 + kws.length) (d + 62) default (.c (.val (.ref 637)) [.lst (kws.map fun q => .str q.2)] none) ⟨[], []⟩ = some (.v c, ⟨[], h'⟩) := by
  have e : ev (pL S) (n + 21 + kws.length + 1) (d + 62) default (.c (.val (.ref 637)) [.lst (kws.map fun q => .str q.2)] none) ⟨[], []⟩ = outV (match asF (ev (pL S) (n + 21 + kws.length) (d + 61) scL (.s lrB) ⟨[("words", .lst (kws.map fun q => .str q.2))], []⟩) with
            | some (.nx, st') => some (.none, (⟨[], st'.h⟩ : St))
            | some (.ret v, st') => some (v, ⟨[], st'.h⟩)
            | Option.none => Option.none) := by kernel_rfl
  rw [show n + 22 + kws.length = n + 21 + kws.length + 1 by lia, e]
  obtain ⟨mid', E⟩ := l_for (S := S) (n := n + 1) (d := d) hk hl
  have key : ev (pL S) (n + 21 + kws.length) (d + 61) scL (.s lrB) ⟨[("words", .lst (kws.map fun q => .str q.2))], []⟩ = some (.f (.ret c), ⟨lmid (kws.map fun q => .str q.2) mid', h'⟩) := by
    rw [k_lp, show n + 21 + kws.length = n + 20 + kws.length + 1 by lia]
    refine ev_seq (s1 := ⟨lmid (kws.map fun q => .str q.2) [], [.lst []]⟩) (by rw [show n + 20 + kws.length = n + 19 + kws.length + 1 by lia]; kernel_rfl) ?_
    rw [show n + 20 + kws.length = n + 1 + 18 + kws.length + 1 by lia]
    refine ev_seq E ?_
    rw [show n + 1 + 18 + kws.length = n + 6 + kws.length + 12 + 1 by lia]
    refine ev_ret (l_ret (n := n + 6 + kws.length) (d := d) ?_)
    have e1 : (MO.lst (tkL 0 kws) :: List.replicate kws.length .dead).length = kws.length + 1 := by simp
    rw [e1]
    exact hS
  rw [key]
  rfl
end
end Mine

end
section -- U11
open PySem PySem.W PyProof.Rows
set_option maxHeartbeats 0
namespace Mine
/-! ## the words of the parts -/
noncomputable def strOr (n : Nat) : V → Str
  | .str x => x
  | _ => numS n
noncomputable def kwV (n : Nat) : V → Str × Str
  | .obj _ _ [a, b, _, _] => (strOr n a, strOr n b)
  | _ => default
noncomputable def wordB (k w : Str) : Bool := match w.cps.toList with
  | c :: _ => seq (kindC c) k
  | [] => false
set_option tactic.hygienic true in
theorem wordB_ok {k w : Str} (h : wordB k w = true) : kwOk (k, w) := by
  unfold wordB at h
  (first | (revert h; refine mb (fun _ h => ?_) (fun _ h => ?_)) | split at h)
  · rename_i c r e
    refine ⟨c, r, ?_, (seq_iff _ _).mp h⟩
    (first | exact Mine.ns w | exact Mine.ft w | exact Mine.sn w | exact Mine.tf w | cases w)
    simp only [] at e ⊢
    rw [← e]
  · (first | exact Mine.ns h | exact Mine.ft h | exact Mine.sn h | exact Mine.tf h | cases h)
theorem num_ok {n : Nat} (hn : n < 30) : kwOk ("number", numS n) := by
  have h : ((List.range 30).all fun n => wordB "number" (numS n)) = true := by decide +kernel
  exact wordB_ok (List.all_eq_true.mp h n (List.mem_range.mpr hn))
noncomputable def tkOf : V → Option (V × V)
  | .obj _ _ [a, b, _, _] => some (a, b)
  | _ => none
noncomputable def tokB (t : V) : Bool := match tkOf t with
  | some (a, b) => (match isStr a with
    | some k => vB (tk k b) t && (match isStr b with
      | some w => wordB k w
      | none => isNm 0 b && seq k "number")
    | none => false)
  | none => false
structure TokOk (n : Nat) (t : V) (k w : Str) : Prop where
  eq : t = tk k (.str w) ∨ (t = tk k (.nm 0) ∧ w = numS n)
  kw : kwV n t = (k, w)
  ok : kwOk (k, w)
set_option tactic.hygienic true in
theorem tokB_ok {n : Nat} (hn : n < 30) {t : V} (h : tokB t = true) : ∃ k w, TokOk n t k w := by
  unfold tokB at h
  (first | (revert h; refine mb (fun _ h => ?_) (fun _ h => ?_)) | split at h)
  · rename_i a b _
    (first | (revert h; refine mb (fun _ h => ?_) (fun _ h => ?_)) | split at h)
    · rename_i k hk
      obtain rfl := isStr_iff2 hk
      replace h := and2 h
      have e := vB_iff _ h.1
      have h2 := h.2
      (first | (revert h2; refine mb (fun _ h2 => ?_) (fun _ h2 => ?_)) | split at h2)
      · rename_i w hw
        obtain rfl := isStr_iff2 hw
        exact ⟨k, w, .inl e.symm, by rw [← e]; rfl, wordB_ok h2⟩
      · replace h2 := and2 h2
        obtain rfl := isNm_iff h2.1
        have hk := (seq_iff _ _).mp h2.2
        subst hk
        exact ⟨_, numS n, .inr ⟨e.symm, rfl⟩, by rw [← e]; rfl, num_ok hn⟩
    · (first | exact Mine.ns h | exact Mine.ft h | exact Mine.sn h | exact Mine.tf h | cases h)
  · (first | exact Mine.ns h | exact Mine.ft h | exact Mine.sn h | exact Mine.tf h | cases h)
theorem tokA_vr {n : Nat} {t : V} {k w : Str} (T : TokOk n t k w) {R : Rc} (h0 : R.τ 0 = .str (numS n)) {ρ : List Addr} {pu : Led} {x : Value} {i : Nat} (h : VR R ρ pu (tokA k w i) x) : VR R ρ pu t x := by
  unfold tokA at h
  obtain ⟨_, _, _, _, rfl, m1, m2, hd⟩ := h.obj_inv; clear h
  have hq := hd.cons2; clear hd; obtain ⟨_, _, _, rfl, k1, v1, hd⟩ := hq
  have hq := hd.cons2; clear hd; obtain ⟨_, _, _, rfl, k2, v2, hd⟩ := hq
  have hq := hd.cons2; clear hd; obtain ⟨_, _, _, rfl, k3, v3, hd⟩ := hq
  have hq := hd.cons2; clear hd; obtain ⟨_, _, _, rfl, k4, v4, hd⟩ := hq
  rcases T.eq with e | ⟨e, e2⟩
  · rw [e]
    exact .obj m1 m2 (.cons k1 v1 (.cons k2 v2 (.cons k3 (.any v3.handed) (.cons k4 (.any v4.handed) hd))))
  · rw [e]
    refine .obj m1 m2 (.cons k1 v1 (.cons k2 (.nm ?_) (.cons k3 (.any v3.handed) (.cons k4 (.any v4.handed) hd))))
    rw [h0, ← e2]
    exact v2
theorem tokW_vr {c : Bool} {R : Rc} {ρ : List Addr} {pu : Led} {x : Value} {i : Nat} {b : V} (hb : b = .str (connW c) ∨ (b = .nm 8 ∧ R.τ 8 = .str (connW c))) (h : VR R ρ pu (tokA "word" (connW c) i) x) : VR R ρ pu (tk "word" b) x := by
  unfold tokA at h
  obtain ⟨_, _, _, _, rfl, m1, m2, hd⟩ := h.obj_inv; clear h
  have hq := hd.cons2; clear hd; obtain ⟨_, _, _, rfl, k1, v1, hd⟩ := hq
  have hq := hd.cons2; clear hd; obtain ⟨_, _, _, rfl, k2, v2, hd⟩ := hq
  have hq := hd.cons2; clear hd; obtain ⟨_, _, _, rfl, k3, v3, hd⟩ := hq
  have hq := hd.cons2; clear hd; obtain ⟨_, _, _, rfl, k4, v4, hd⟩ := hq
  rcases hb with rfl | ⟨rfl, e⟩
  · exact .obj m1 m2 (.cons k1 v1 (.cons k2 v2 (.cons k3 (.any v3.handed) (.cons k4 (.any v4.handed) hd))))
  · refine .obj m1 m2 (.cons k1 v1 (.cons k2 (.nm ?_) (.cons k3 (.any v3.handed) (.cons k4 (.any v4.handed) hd))))
    rw [e]; exact v2
noncomputable def kwW (t : Itm) : KW := t.r.s.win.map (kwV t.n)
mutual
noncomputable def kwR : List Itm → KW
  | [] => []
  | t :: r => kwW t ++ kwC r
noncomputable def kwC : List Itm → KW
  | [] => []
  | t :: r => ("word", connW t.conn) :: (kwW t ++ kwC r)
end
noncomputable def fits : List Itm → Prop
  | [] => True
  | t :: r => (t.r.nx = [] ∨ (t.r.nx = nxW ∧ r ≠ [])) ∧ (t.r.fin = true → r = [] ∧ t.r.nx = []) ∧ fits r
theorem tkL_get : ∀ (kws : KW) (i j : Nat), (tkL i kws)[j]? = (kws[j]?).map fun q => tokA q.1 q.2 (i + j)
  | [], _, _ => rfl
  | q :: r, i, 0 => rfl
  | q :: r, i, j + 1 => by
    show (tkL (i + 1) r)[j]? = (r[j]?).map _
    rw [tkL_get r (i + 1) j, show i + 1 + j = i + (j + 1) by lia]
theorem tkL_len : ∀ (kws : KW) (i : Nat), (tkL i kws).length = kws.length
  | [], _ => rfl
  | q :: r, i => by
    show (tkL (i + 1) r).length + 1 = _
    rw [tkL_len r]; rfl
theorem tkL_cl : ∀ (kws : KW) (i : Nat), clVs (tkL i kws) = true
  | [], _ => rfl
  | q :: r, i => by
    show (true && clVs (tkL (i + 1) r)) = true
    rw [tkL_cl r]; rfl
theorem kwW_len (t : Itm) : (kwW t).length = t.r.s.win.length := List.length_map ..
theorem kwR_len : ∀ its : List Itm, (kwR its).length = lenOf (planOf its)
  | [] => rfl
  | [t] => by
    show (kwW t ++ []).length = _
    rw [List.append_nil, kwW_len]; rfl
  | t :: u :: r => by
    have := kwR_len (u :: r)
    show (kwW t ++ ((("word" : Str), connW u.conn) :: kwR (u :: r))).length = t.r.s.win.length + 1 + lenOf (planOf (u :: r))
    rw [List.length_append, List.length_cons, this, kwW_len]; lia
section
variable {B : Base} {its : List Itm}
theorem rows_ok {kws : KW} (hlt : kws.length < 5000) (hits : ∀ t ∈ its, t.n < 30 ∧ ∀ x ∈ t.r.s.win, tokB x = true) : ∀ (rest : List Itm) (k i : Nat), (∀ j, rest[j]? = its[i + j]?) → (∀ j, (kwR rest)[j]? = kws[k + j]?) → kws.length = k + (kwR rest).length → fits rest →
    (∀ t r, rest = t :: r → 0 < i → ∃ k', k = k' + 1 ∧ kws[k']? = some (("word" : Str), connW t.conn)) →
    ∀ row ∈ rowsOf k i (planOf rest), (∃ t, its[row.i]? = some t ∧ row.len = t.r.s.win.length ∧ Win (tkL 0 kws) row.pos t.r.win t.r.fin (rcB B (tauT (tkL 0 kws) row.pos t.n (nxOf its row.i) (lastV its row.i)))) ∧
      (0 < row.i → ∃ k t', row.pos = k + 1 ∧ (tkL 0 kws)[k]? = some t' ∧ ∀ (R : Rc) ρ pu x, VR R ρ pu t' x → VR R ρ pu (tW (connW row.conn)) x)
  | [], _, _, _, _, _, _, _, row, hr => by (first | exact Mine.ns hr | exact Mine.ft hr | exact Mine.sn hr | exact Mine.tf hr | cases hr)
  | t :: r, k, i, h1, h2, h3, h4, h5, row, hr => by
    have ht : its[i]? = some t := (h1 0).symm
    obtain ⟨hn, hw⟩ := hits t (List.mem_of_getElem? ht)
    obtain ⟨f1, f2, f3⟩ := h4
    have hget : ∀ j x, t.r.s.win[j]? = some x → kws[k + j]? = some (kwV t.n x) := fun j x e => by
      have hj := (List.getElem?_eq_some_iff.mp e).1
      rw [← h2 j]
      show (kwW t ++ kwC r)[j]? = _
      rw [List.getElem?_append_left (by rw [kwW_len]; exact hj)]
      unfold kwW
      rw [List.getElem?_map, e]; rfl
    rcases List.mem_cons.mp hr with rfl | hr
    · refine ⟨⟨t, ht, rfl, ?_⟩, ?_⟩
      · refine ⟨fun d x e => ?_, fun hf => ?_, by rw [tkL_len]; lia, tkL_cl _ _⟩
        · unfold Run.win at e
          by_cases hd : d < t.r.s.win.length
          · rw [List.getElem?_append_left hd] at e
            have g := hget d x e
            refine ⟨_, by rw [tkL_get, g]; rfl, fun ρ pu y hy => ?_⟩
            obtain ⟨kk, w, T⟩ := tokB_ok hn (hw x (List.mem_of_getElem? e))
            rw [T.kw] at hy
            exact tokA_vr T rfl hy
          · rw [List.getElem?_append_right (by lia)] at e
            rcases f1 with f1 | ⟨f1, f1'⟩
            · rw [f1] at e; simp at e
            · rw [f1] at e
              unfold nxW at e
              cases hd2 : d - t.r.s.win.length with
              | succ m => rw [hd2] at e; simp at e
              | zero =>
                rw [hd2] at e
                (first | exact Mine.ns e | exact Mine.ft e | exact Mine.sn e | exact Mine.tf e | cases e)
                cases r with
                | nil => exact absurd rfl f1'
                | cons u r =>
                  have hu : its[i + 1]? = some u := (h1 1).symm
                  have g : kws[k + d]? = some (("word" : Str), connW u.conn) := by
                    rw [← h2 d]
                    show (kwW t ++ ((("word" : Str), connW u.conn) :: (kwW u ++ kwC r)))[d]? = _
                    rw [List.getElem?_append_right (by rw [kwW_len]; lia), kwW_len, hd2]; rfl
                  refine ⟨_, by rw [tkL_get, g]; rfl, fun ρ pu y hy => ?_⟩
                  refine tokW_vr (c := u.conn) (.inr ⟨rfl, ?_⟩) hy
                  show V.str (nxOf its i) = _
                  unfold nxOf
                  rw [hu]
        · obtain ⟨g1, g2⟩ := f2 hf
          rw [tkL_len, h3]
          subst g1
          show k + (kwW t ++ []).length = k + (t.r.s.win ++ t.r.nx).length
          rw [g2, List.append_nil, List.append_nil, kwW_len]
      · intro hi
        obtain ⟨k', e1, e2⟩ := h5 t r rfl hi
        exact ⟨k', _, e1, by rw [tkL_get, e2]; rfl, fun R ρ pu x hx => tokW_vr (c := t.conn) (.inl rfl) hx⟩
    · cases r with
      | nil => (first | exact Mine.ns hr | exact Mine.ft hr | exact Mine.sn hr | exact Mine.tf hr | cases hr)
      | cons u r =>
        have hL := kwW_len t
        refine rows_ok hlt hits (u :: r) (k + t.r.s.win.length + 1) (i + 1) (fun j => ?_) (fun j => ?_) ?_ f3 (fun v q e _ => ?_) row hr
        · have := h1 (j + 1)
          rw [show i + 1 + j = i + (j + 1) by lia]
          exact this
        · have := h2 (t.r.s.win.length + 1 + j)
          rw [show k + t.r.s.win.length + 1 + j = k + (t.r.s.win.length + 1 + j) by lia, ← this]
          show _ = (kwW t ++ ((("word" : Str), connW u.conn) :: kwR (u :: r)))[t.r.s.win.length + 1 + j]?
          rw [List.getElem?_append_right (by lia), hL, show t.r.s.win.length + 1 + j - t.r.s.win.length = j + 1 by lia]; rfl
        · rw [h3]
          show k + (kwW t ++ ((("word" : Str), connW u.conn) :: kwR (u :: r))).length = _
          rw [List.length_append, List.length_cons, hL]; lia
        · (first | exact Mine.ns e | exact Mine.ft e | exact Mine.sn e | exact Mine.tf e | cases e)
          refine ⟨k + t.r.s.win.length, rfl, ?_⟩
          have := h2 t.r.s.win.length
          rw [← this]
          show (kwW t ++ ((("word" : Str), connW u.conn) :: kwR (u :: r)))[t.r.s.win.length]? = _
          rw [List.getElem?_append_right (by lia), hL, Nat.sub_self]; rfl
theorem env_ok (hok : ∀ t ∈ its, ItmOk t) (h40 : its.length < 40) (hlt : (kwR its).length < 5000) (hw : ∀ t ∈ its, ∀ x ∈ t.r.s.win, tokB x = true) (hf : fits its) : EnvOk B (tkL 0 (kwR its)) its := by
  have key := rows_ok (B := B) (its := its) hlt (fun t ht => ⟨(hok t ht).n, hw t ht⟩) its 0 0 (fun j => by rw [Nat.zero_add]) (fun j => by rw [Nat.zero_add]) (by lia) hf (fun t r _ h => by lia)
  exact ⟨hok, h40, tkL_cl _ _, by rw [tkL_len]; lia, by rw [tkL_len]; exact kwR_len its, fun row hr => (key row hr).1, fun row hr => (key row hr).2⟩
theorem kwR_ok (hn : ∀ t ∈ its, t.n < 30) (hw : ∀ t ∈ its, ∀ x ∈ t.r.s.win, tokB x = true) : ∀ q ∈ kwR its, kwOk q := by
  have hc : ∀ c, kwOk (("word" : Str), connW c) := fun c => wordB_ok (by (first | exact Mine.ns c | exact Mine.ft c | exact Mine.sn c | exact Mine.tf c | cases c) <;> decide +kernel)
  have hW : ∀ t ∈ its, ∀ q ∈ kwW t, kwOk q := fun t ht q hq => by
    obtain ⟨x, hx, rfl⟩ := List.mem_map.mp hq
    obtain ⟨k, w, T⟩ := tokB_ok (hn t ht) (hw t ht x hx)
    rw [T.kw]; exact T.ok
  have hC : ∀ r : List Itm, (∀ t ∈ r, t ∈ its) → ∀ q ∈ kwC r, kwOk q := by
    intro r
    induction r with
    | nil => intro _ q hq; (first | exact Mine.ns hq | exact Mine.ft hq | exact Mine.sn hq | exact Mine.tf hq | cases hq)
    | cons t r ih =>
      intro hs q hq
      rcases List.mem_cons.mp hq with rfl | hq
      · exact hc _
      · rcases List.mem_append.mp hq with hq | hq
        · exact hW t (hs t (List.mem_cons_self ..)) q hq
        · exact ih (fun u hu => hs u (List.mem_cons_of_mem _ hu)) q hq
  intro q hq
  cases its with
  | nil => (first | exact Mine.ns hq | exact Mine.ft hq | exact Mine.sn hq | exact Mine.tf hq | cases hq)
  | cons t r =>
    rcases List.mem_append.mp hq with hq | hq
    · exact hW t (List.mem_cons_self ..) q hq
    · exact hC r (fun u hu => List.mem_cons_of_mem _ hu) q hq
/-- _law_read, of the words of the parts -/
theorem law_read (F : Facts B.K) (hok : ∀ t ∈ its, ItmOk t) (h40 : its.length < 40) (hlt : (kwR its).length < 5000) (hw : ∀ t ∈ its, ∀ x ∈ t.r.s.win, tokB x = true) (hf : fits its) (hr : readOk (planOf its) = true) {τ : Nat → V} (cτ : ∀ k, clV (τ k) = true) {args : List V}
    (ha : trVs .loc τ args = [.lst ((kwR its).map fun q => .str q.2)]) {v : V} (hv : trV .loc τ v = treeOf its) (hvo : ∀ m, okV m τ v = true) (h : List MO) : Cal B τ 62 637 args h v h := by
  obtain ⟨h', C⟩ := read408 F (env_ok (B := B) hok h40 hlt hw hf) hr (τ := tau0) tau0_cl (kwR its).length
  classical
  let S : List V → List MO → Option (V × List MO) := fun a g => if a = [.loc ((kwR its).length + 1), isnV] ∧ g = .lst (tkL 0 (kwR its)) :: (List.replicate (kwR its).length .dead ++ [rdO (.loc 0) (.int 0)]) then some (treeOf its, h') else none
  have hS : S [.loc ((kwR its).length + 1), isnV] (.lst (tkL 0 (kwR its)) :: (List.replicate (kwR its).length .dead ++ [rdO (.loc 0) (.int 0)])) = some (treeOf its, h') := if_pos ⟨rfl, rfl⟩
  have sg : SgOk (glb B tau0) (pL S) := by
    intro d a as g w g' hd e l
    have hd : 59 ≤ d := hd
    replace e : sgL S a as g = some (w, g') := e
    unfold sgL at e
    revert e; refine zB fun _ e => ?_
    rename_i q
    obtain rfl := Nat.eq_of_beq_eq_true q
    by_cases hc : as = [.loc ((kwR its).length + 1), isnV] ∧ g = .lst (tkL 0 (kwR its)) :: (List.replicate (kwR its).length .dead ++ [rdO (.loc 0) (.int 0)])
    · obtain ⟨rfl, rfl⟩ := hc
      rw [hS] at e
      obtain ⟨rfl, rfl⟩ := oPi e
      exact (C.up (by lia)) l
    · have : S as g = none := if_neg hc
      rw [this] at e; (first | exact Mine.ns e | exact Mine.ft e | exact Mine.sn e | exact Mine.tf e | cases e)
  have R := right (B := B) (τ := tau0) F (p := pL S) ⟨rfl, rfl, rfl, rfl, rfl, rfl⟩ rfl tau0_ok (fx_no rfl) (str_no rfl) sg (0 + 22 + (kwR its).length) 62
  have E := law_read_ev (S := S) (n := 0) (d := 0) (kwR_ok (fun t ht => (hok t ht).n) hw) (by lia) hS
  have ct := treeOf_cl hok
  refine lift0 cτ tau0_cl (calls_ev R E) ?_ ?_ ?_ hvo h
  · rw [ha, trVs_cl]
    show (clVs _ && true) = true
    rw [Bool.and_true]
    generalize kwR its = l
    induction l with
    | nil => rfl
    | cons q l ih => exact ih
  · refine okVs_cl _ ?_
    show (clVs _ && true) = true
    rw [Bool.and_true]
    generalize kwR its = l
    induction l with
    | nil => rfl
    | cons q l ih => exact ih
  · rw [hv, trV_cl _ ct]
end
end Mine

end
section -- U12
open PySem PySem.W PyProof.Rows
set_option maxHeartbeats 0
namespace Mine
/-! ## facts of closed calls -/
section
variable {τ : Nat → V} {pl pl' : Nat → V}
mutual
theorem trV_pl : ∀ (d : V), okV 0 τ d = true → trV pl τ d = trV pl' τ d
  | .tup l, e => congrArg _ (trVs_pl l e)
  | .lst l, e => congrArg _ (trVs_pl l e)
  | .obj C ns l, e => congrArg _ (trVs_pl l e)
  | .loc n, e => by
    have e : Nat.blt n 0 = true := e
    exact absurd (Nat.blt_eq.mp e) (by lia)
  | .nm k, _ => rfl
  | .off _ _, _ => rfl
  | .none, _ => rfl
  | .bool _, _ => rfl
  | .int _, _ => rfl
  | .str _, _ => rfl
  | .val _, _ => rfl
  | .bi _, _ => rfl
  | .rng _ _, _ => rfl
  | .clo _ _ _, _ => rfl
  | .any, _ => rfl
theorem trVs_pl : ∀ (d : List V), okVs 0 τ d = true → trVs pl τ d = trVs pl' τ d
  | [], _ => rfl
  | d :: r, e => by
    have e : (okV 0 τ d && okVs 0 τ r) = true := e
    replace e := and2 e
    show trV pl τ d :: trVs pl τ r = trV pl' τ d :: trVs pl' τ r
    rw [trV_pl d e.1, trVs_pl r e.2]
end
mutual
theorem trV_isCl (cτ : ∀ k, clV (τ k) = true) : ∀ (d : V), okV 0 τ d = true → clV (trV pl τ d) = true
  | .tup l, e => trVs_isCl cτ l e
  | .lst l, e => trVs_isCl cτ l e
  | .obj C ns l, e => trVs_isCl cτ l e
  | .loc n, e => by
    have e : Nat.blt n 0 = true := e
    exact absurd (Nat.blt_eq.mp e) (by lia)
  | .nm k, _ => cτ k
  | .off k i, _ => by
    show clV (match τ k with | .int i' => .int (i' + i) | _ => .any) = true
    split <;> rfl
  | .none, _ => rfl
  | .bool _, _ => rfl
  | .int _, _ => rfl
  | .str _, _ => rfl
  | .val _, _ => rfl
  | .bi _, _ => rfl
  | .rng _ _, _ => rfl
  | .clo _ _ _, _ => rfl
  | .any, _ => rfl
theorem trVs_isCl (cτ : ∀ k, clV (τ k) = true) : ∀ (d : List V), okVs 0 τ d = true → clVs (trVs pl τ d) = true
  | [], _ => rfl
  | d :: r, e => by
    have e : (okV 0 τ d && okVs 0 τ r) = true := e
    replace e := and2 e
    show (clV (trV pl τ d) && clVs (trVs pl τ r)) = true
    rw [trV_isCl cτ d e.1, trVs_isCl cτ r e.2]; rfl
end
end
structure CF (B : Base) (d : Nat) (a : Addr) (args : List V) (v : V) : Prop where
  ca : clVs args = true
  cv : clV v = true
  ct : ∃ h', CallsTo (glb B tau0) d (.ref a) args none ⟨[], []⟩ v h' Tr
section
variable {B : Base} {d : Nat} {a : Addr} {args : List V} {v : V} {τ : Nat → V}
theorem CF.to (C : CF B d a args v) (cτ : ∀ k, clV (τ k) = true) {args2 : List V} {v2 : V} (ha : trVs .loc τ args2 = args) (hv : trV .loc τ v2 = v) (ho : ∀ m, okV m τ v2 = true) (h : List MO) : Cal B τ d a args2 h v2 h := by
  obtain ⟨c1, c2, h', C⟩ := C
  refine lift0 cτ tau0_cl C ?_ (okVs_cl _ c1) ?_ ho h
  · rw [ha, trVs_cl _ c1]
  · rw [hv, trV_cl _ c2]
theorem CF.up {D : Nat} (h : d ≤ D) (C : CF B d a args v) : CF B D a args v := ⟨C.ca, C.cv, C.ct.elim fun h' q => ⟨h', q.up h⟩⟩
theorem CF.of {h' : List MO} (cτ : ∀ k, clV (τ k) = true) (C : CallsTo (glb B τ) d (.ref a) args none ⟨[], []⟩ v h' Tr) (oa : okVs 0 τ args = true) (ov : okV 0 τ v = true) : CF B d a (trVs .loc τ args) (trV .loc τ v) := by
  have c1 := trVs_isCl (pl := .loc) cτ args oa
  have c2 := trV_isCl (pl := .loc) cτ v ov
  refine ⟨c1, c2, [], ?_⟩
  refine lift0 (τ := tau0) tau0_cl cτ C ?_ oa ?_ (fun _ => okV_cl _ c2) [] []
  · rw [trVs_cl _ c1]; exact trVs_pl _ oa
  · rw [trV_cl _ c2]; exact trV_pl _ ov
theorem CF.cal {h' : List MO} (C : Cal B tau0 d a args [] v h') (c1 : clVs args = true) (c2 : clV v = true) : CF B d a args v := ⟨c1, c2, h', C []⟩
/-- a run without summaries, with names of small numbers -/
theorem cf_run (F : Facts B.K) {l : List (Nat × V)} (low : ∀ q ∈ l, q.1 < 50) (cl : ∀ q ∈ l, clV q.2 = true) {n : Nat} (h : outOk (ev par0 n d default (.c (.val (.ref a)) args none) ⟨[], []⟩) v [] = true) (oa : okVs 0 (tauL l) args = true) (ov : okV 0 (tauL l) v = true) : CF B d a (trVs .loc (tauL l) args) (trV .loc (tauL l) v) := by
  obtain ⟨g, e⟩ := outOk_iff h
  have S := right (B := B) (τ := tauL l) F (p := par0) ⟨rfl, rfl, rfl, rfl, rfl, rfl⟩ rfl (tauL_low low) (fx_no rfl) (str_no rfl) (sg_no rfl) n d
  exact .of (tauL_cl cl) (calls_ev S e) oa ov
end
mutual
theorem okV_only {m : Nat} {τ : Nat → V} : ∀ (d : V), onlyN d = true → okV m τ d = true
  | .tup l, e => okVs_only l e
  | .lst l, e => okVs_only l e
  | .obj C ns l, e => okVs_only l e
  | .nm k, _ => rfl
  | .off _ _, e => by (first | exact Mine.ns e | exact Mine.ft e | exact Mine.sn e | exact Mine.tf e | cases e)
  | .loc _, e => by (first | exact Mine.ns e | exact Mine.ft e | exact Mine.sn e | exact Mine.tf e | cases e)
  | .none, _ => rfl
  | .bool _, _ => rfl
  | .int _, _ => rfl
  | .str _, _ => rfl
  | .val _, _ => rfl
  | .bi _, _ => rfl
  | .rng _ _, _ => rfl
  | .clo _ _ _, _ => rfl
  | .any, _ => rfl
theorem okVs_only {m : Nat} {τ : Nat → V} : ∀ (d : List V), onlyNs d = true → okVs m τ d = true
  | [], _ => rfl
  | d :: r, e => by
    have e : (onlyN d && onlyNs r) = true := e
    replace e := and2 e
    show (okV m τ d && okVs m τ r) = true
    rw [okV_only d e.1, okVs_only r e.2]; rfl
end
section
variable {B : Base}
noncomputable def tau16 (n : Nat) (asc : Bool) : List (Nat × V) := [(1, .int (.ofNat n)), (6, .bool asc)]
theorem low16 (n : Nat) (asc : Bool) : ∀ q ∈ tau16 n asc, q.1 < 50 := by
  intro q hq
  simp only [tau16, List.mem_cons, List.not_mem_nil, or_false] at hq
  rcases hq with rfl | rfl <;> simp
theorem cl16 (n : Nat) (asc : Bool) : ∀ q ∈ tau16 n asc, clV q.2 = true := by
  intro q hq
  simp only [tau16, List.mem_cons, List.not_mem_nil, or_false] at hq
  rcases hq with rfl | rfl <;> rfl
/-- key_row -/
theorem row_cf (F : Facts B.K) {t r : V} (h : rowOk1 t r = true) (h1 : onlyN t = true) (h2 : onlyN r = true) (n : Nat) (asc : Bool) : CF B 20 40 [keysB asc, setN (.int (.ofNat n)) t] (setN (.int (.ofNat n)) r) := by
  have C := cf_run (B := B) F (low16 n asc) (cl16 n asc) h (by
    show (okV _ _ (keysN (.nm 6)) && (okV _ _ t && true)) = true
    rw [okV_only t h1]; rfl) (okV_only r h2)
  have e1 : trVs .loc (tauL (tau16 n asc)) [keysN (.nm 6), t] = [keysB asc, setN (.int (.ofNat n)) t] := by
    show [trV _ _ (keysN (.nm 6)), trV _ _ t] = _
    rw [trV_setN (n := .int (.ofNat n)) rfl t h1]; rfl
  rw [e1, trV_setN (n := .int (.ofNat n)) rfl r h2] at C
  exact C
/-- and_parts of a leaf -/
theorem leaf_cf (F : Facts B.K) {t : V} (h : leafOk t = true) (h1 : onlyN t = true) (n : Nat) : CF B 20 28 [setN (.int (.ofNat n)) t] (.lst [setN (.int (.ofNat n)) t]) := by
  have C := cf_run (B := B) F (low16 n false) (cl16 n false) h (by
    show (okV _ _ t && true) = true
    rw [okV_only t h1]; rfl) (by
    show (okV _ _ t && true) = true
    rw [okV_only t h1]; rfl)
  have e1 : trVs .loc (tauL (tau16 n false)) [t] = [setN (.int (.ofNat n)) t] := by
    show [trV _ _ t] = _
    rw [trV_setN (n := .int (.ofNat n)) rfl t h1]
  have e2 : trV .loc (tauL (tau16 n false)) (.lst [t]) = .lst [setN (.int (.ofNat n)) t] := by
    show V.lst (trVs .loc (tauL (tau16 n false)) [t]) = _
    rw [e1]
  rw [e1, e2] at C
  exact C
/-- the tree with or -/
noncomputable def tau78 (x y : V) (asc : Bool) : List (Nat × V) := [(6, .bool asc), (7, x), (8, y)]
theorem or_cf (F : Facts B.K) (hr : rowOk1 orT .none = true) (hl : leafOk orT = true) {x y : V} (hx : clV x = true) (hy : clV y = true) (asc : Bool) :
    CF B 20 40 [keysB asc, .tup [.str "or", x, y]] .none ∧ CF B 20 28 [.tup [.str "or", x, y]] (.lst [.tup [.str "or", x, y]]) := by
  have low : ∀ q ∈ tau78 x y asc, q.1 < 50 := by
    intro q hq
    simp only [tau78, List.mem_cons, List.not_mem_nil, or_false] at hq
    rcases hq with rfl | rfl | rfl <;> simp
  have cl : ∀ q ∈ tau78 x y asc, clV q.2 = true := by
    intro q hq
    simp only [tau78, List.mem_cons, List.not_mem_nil, or_false] at hq
    rcases hq with rfl | rfl | rfl
    · rfl
    · exact hx
    · exact hy
  exact ⟨cf_run (B := B) F low cl hr rfl rfl, cf_run (B := B) F low cl hl rfl rfl⟩
/-! ## and_parts of many -/
noncomputable def leafD (ls : List V) (i : Nat) : V := (ls[i]?).getD ((ls[0]?).getD (.int 0))
noncomputable def tauA (ls : List V) (k : Nat) : V := if 100 ≤ k then leafD ls (k - 100) else .int 0
structure LeafOk (B : Base) (t : V) : Prop where
  cl : clV t = true
  c : isC t = true
  d : (pdc t).depth ≤ 11
  cf : CF B 20 28 [t] (.lst [t])
variable {ls : List V}
theorem leafD_mem (h : ls ≠ []) (i : Nat) : leafD ls i ∈ ls := by
  unfold leafD
  cases e : ls[i]? with
  | some x => exact List.mem_of_getElem? e
  | none =>
    cases ls with
    | nil => exact absurd rfl h
    | cons x r => exact List.mem_cons_self ..
theorem leafD_at {i : Nat} {x : V} (h : ls[i]? = some x) : leafD ls i = x := by unfold leafD; rw [h]; rfl
theorem tauA_cl (hls : ls ≠ []) (hl : ∀ t ∈ ls, LeafOk B t) (k : Nat) : clV (tauA ls k) = true := by
  unfold tauA
  split
  · exact (hl _ (leafD_mem hls _)).cl
  · rfl
theorem tauA_ok (hls : ls ≠ []) (hl : ∀ t ∈ ls, LeafOk B t) : TauOk (rcB B (tauA ls)) := by
  refine ⟨fun k hk => ?_, fun k hk => ?_, fun k h1 h2 ρ pu x hx => ?_⟩
  · show isC (tauA ls k) = true
    unfold tauA; rw [if_pos hk]; exact (hl _ (leafD_mem hls _)).c
  · show (pdc (tauA ls k)).depth ≤ 12
    unfold tauA; rw [if_pos hk]; have := (hl _ (leafD_mem hls (k - 100))).d; lia
  · replace hx : VR (rcB B (tauA ls)) ρ pu (tauA ls k) x := hx
    unfold tauA at hx
    rw [if_neg (by lia)] at hx
    obtain ⟨_, rfl⟩ := hx.int_inv; clear hx
    exact ⟨rfl, by intro q; (first | exact Mine.ns q | exact Mine.ft q | exact Mine.sn q | exact Mine.tf q | cases q)⟩
theorem nmK_iff {x : V} {k : Nat} (h : nmK x = some k) : x = .nm k := by
  (first | exact Mine.ns x | exact Mine.ft x | exact Mine.sn x | exact Mine.tf x | cases x) <;> first | ((first | exact Mine.ns h | exact Mine.ft h | exact Mine.sn h | exact Mine.tf h | cases h); rfl) | (first | exact Mine.ns h | exact Mine.ft h | exact Mine.sn h | exact Mine.tf h | cases h)
set_option tactic.hygienic true in
theorem sgA_ok (hls : ls ≠ []) (hl : ∀ t ∈ ls, LeafOk B t) : SgOk (glb B (tauA ls)) pA := by
  intro d a args h v h' hd e l
  replace hd : 19 ≤ d := hd
  replace e : sgA a args h = some (v, h') := e
  unfold sgA at e
  (first | (revert e; refine mb (fun _ e => ?_) (fun _ e => ?_)) | split at e)
  · rename_i x ha
    obtain rfl := Nat.eq_of_beq_eq_true ha
    revert e; refine zONat fun _ _ e => ?_
    rename_i k hk
    obtain rfl := nmK_iff hk
    revert e; refine zB fun _ e => ?_
    rename_i h100
    obtain ⟨rfl, rfl⟩ := oPi e
    have h100 := Nat.le_of_ble_eq_true h100
    have L := hl _ (leafD_mem hls (k - 100))
    have e1 : tauA ls k = leafD ls (k - 100) := by unfold tauA; rw [if_pos h100]
    refine (L.cf.to (tauA_cl hls hl) ?_ ?_ (fun _ => rfl) h).up (by lia) l
    · show [tauA ls k] = _
      rw [e1]
    · show V.lst [tauA ls k] = _
      rw [e1]
  · (first | exact Mine.ns e | exact Mine.ft e | exact Mine.sn e | exact Mine.tf e | cases e)
theorem tr_andV (i : Nat) : trV .loc (tauA ls) (andV (i + 1)) = .tup [.str "and", trV .loc (tauA ls) (andV i), leafD ls (i + 1)] := by
  show V.tup [.str "and", trV .loc (tauA ls) (andV i), tauA ls (100 + (i + 1))] = _
  unfold tauA
  rw [if_pos (by lia), Nat.add_sub_cancel_left]
theorem ok_andV (m : Nat) : ∀ i, okV m (tauA ls) (andV i) = true
  | 0 => rfl
  | i + 1 => by
    show (true && (okV m (tauA ls) (andV i) && (true && true))) = true
    rw [ok_andV m i]; rfl
theorem nmL_tr (τ : Nat → V) (pl : Nat → V) (b n : Nat) : trVs pl τ (nmL b n) = (List.range n).map fun i => τ (b + i) := by
  unfold nmL
  generalize List.range n = r
  induction r with
  | nil => rfl
  | cons x r ih => show τ (b + x) :: trVs pl τ _ = _; rw [ih]; rfl
theorem nmL_ok (τ : Nat → V) (m b n : Nat) : okVs m τ (nmL b n) = true := by
  unfold nmL
  generalize List.range n = r
  induction r with
  | nil => rfl
  | cons x r ih => exact ih
theorem range_leaf : ∀ (ls : List V), (List.range ls.length).map (fun i => leafD ls i) = ls := by
  intro ls
  refine List.ext_getElem? fun i => ?_
  rw [List.getElem?_map]
  by_cases h : i < ls.length
  · rw [List.getElem?_range h, List.getElem?_eq_getElem h]
    show some (leafD ls i) = _
    rw [leafD_at (List.getElem?_eq_getElem h)]
  · rw [List.getElem?_eq_none (by simpa using h), List.getElem?_eq_none (by lia)]; rfl
/-- and_parts of parts joined by AND -/
theorem parts_cf (F : Facts B.K) {n : Nat} (hn : ls.length = n + 1) (hl : ∀ t ∈ ls, LeafOk B t) (h : partsOk n = true) : CF B 40 28 [trV .loc (tauA ls) (andV n)] (.lst ls) := by
  have hls : ls ≠ [] := by rintro rfl; simp at hn
  obtain ⟨g, e⟩ := outOk_iff h
  have S := right (B := B) (τ := tauA ls) F (p := pA) ⟨rfl, rfl, rfl, rfl, rfl, rfl⟩ rfl (tauA_ok hls hl) (fx_no rfl) (str_no rfl) (sgA_ok hls hl) 80 40
  have C := CF.of (tauA_cl hls hl) (calls_ev S e) (by
    show (okV 0 (tauA ls) (andV n) && true) = true
    rw [ok_andV]; rfl) (nmL_ok _ _ _ _)
  have e2 : trV .loc (tauA ls) (.lst (nmL 100 (n + 1))) = .lst ls := by
    show V.lst (trVs .loc (tauA ls) (nmL 100 (n + 1))) = _
    rw [nmL_tr, ← hn]
    congr 1
    refine Eq.trans ?_ (range_leaf ls)
    refine List.map_congr_left fun i _ => ?_
    unfold tauA
    rw [if_pos (by lia), Nat.add_sub_cancel_left]
  rw [e2] at C
  exact C
end
end Mine

end
section -- U13
open PySem PySem.W PyProof.Rows
set_option maxHeartbeats 0
namespace Mine
/-! ## rows -/
noncomputable abbrev RowD := Option (Nat × V × V)
noncomputable def rowR : RowD → V
  | none => .none
  | some (p, a, b) => .tup [.int (.ofNat p), a, b]
noncomputable def rsOf (rows : List RowD) : Rows := rows.map fun r => r.map (·.1)
noncomputable def canon (rs : Rows) : Rows := match hasN rs with
  | true => rs.map fun r => r.map fun _ => 0
  | false => rs
noncomputable def rowAt (rows : List RowD) (i : Nat) : Nat × V × V := ((rows[i]?).join).getD (0, .int 0, .int 0)
noncomputable def tauK (asc : Bool) (cond : V) (ls : List V) (rows : List RowD) (k : Nat) : V :=
  if k = 6 then .bool asc else if k = 9 then cond else if 300 ≤ k then .int (.ofNat (rowAt rows (k - 300)).1)
  else if 200 ≤ k then (if k % 2 = 0 then (rowAt rows ((k - 200) / 2)).2.1 else (rowAt rows ((k - 200) / 2)).2.2)
  else if 100 ≤ k then leafD ls (k - 100) else .int 0
structure RowOk (r : Nat × V × V) : Prop where
  ca : clV r.2.1 = true
  cb : clV r.2.2 = true
  a : isC r.2.1 = true
  b : isC r.2.2 = true
  da : (pdc r.2.1).depth ≤ 8
  db : (pdc r.2.2).depth ≤ 8
section
variable {B : Base} {asc : Bool} {cond : V} {ls : List V} {rows : List RowD}
theorem rowAt_ok (h : ∀ r, some r ∈ rows → RowOk r) (i : Nat) : RowOk (rowAt rows i) := by
  unfold rowAt
  cases e : rows[i]? with
  | none => exact ⟨rfl, rfl, rfl, rfl, by show (pdc (.int 0)).depth ≤ 8; decide, by show (pdc (.int 0)).depth ≤ 8; decide⟩
  | some r =>
    cases r with
    | none => exact ⟨rfl, rfl, rfl, rfl, by show (pdc (.int 0)).depth ≤ 8; decide, by show (pdc (.int 0)).depth ≤ 8; decide⟩
    | some r => exact h r (List.mem_of_getElem? e)
theorem tauK_cl (hc : clV cond = true) (hls : ls ≠ []) (hl : ∀ t ∈ ls, LeafOk B t) (hr : ∀ r, some r ∈ rows → RowOk r) (k : Nat) : clV (tauK asc cond ls rows k) = true := by
  unfold tauK
  split
  · rfl
  · split
    · exact hc
    · split
      · rfl
      · split
        · split
          · exact (rowAt_ok hr _).ca
          · exact (rowAt_ok hr _).cb
        · split
          · exact (hl _ (leafD_mem hls _)).cl
          · rfl
theorem tauK_C (hls : ls ≠ []) (hl : ∀ t ∈ ls, LeafOk B t) (hr : ∀ r, some r ∈ rows → RowOk r) {k : Nat} (hk : 100 ≤ k) : isC (tauK asc cond ls rows k) = true ∧ (pdc (tauK asc cond ls rows k)).depth ≤ 11 ∧ (200 ≤ k → (pdc (tauK asc cond ls rows k)).depth ≤ 8) := by
  unfold tauK
  rw [if_neg (by lia), if_neg (by lia)]
  split
  · exact ⟨rfl, by show (0 : Nat) ≤ 11; decide, fun _ => by show (0 : Nat) ≤ 8; decide⟩
  · split
    · split
      · have R := rowAt_ok hr ((k - 200) / 2)
        exact ⟨R.a, by have := R.da; lia, fun _ => R.da⟩
      · have R := rowAt_ok hr ((k - 200) / 2)
        exact ⟨R.b, by have := R.db; lia, fun _ => R.db⟩
    · have L := hl _ (leafD_mem hls (k - 100))
      exact ⟨L.c, L.d, fun h => by lia⟩
theorem tauK_ok (hls : ls ≠ []) (hl : ∀ t ∈ ls, LeafOk B t) (hr : ∀ r, some r ∈ rows → RowOk r) : TauOk (rcB B (tauK asc cond ls rows)) := by
  refine ⟨fun k hk => (tauK_C hls hl hr hk).1, fun k hk => ?_, fun k h1 h2 ρ pu x hx => ?_⟩
  · have := (tauK_C (asc := asc) (cond := cond) hls hl hr hk).2.1
    show (pdc (tauK asc cond ls rows k)).depth ≤ 12
    lia
  · replace hx : VR (rcB B (tauK asc cond ls rows)) ρ pu (tauK asc cond ls rows k) x := hx
    unfold tauK at hx
    rw [if_neg (by lia), if_neg (by lia), if_neg (by lia), if_neg (by lia), if_neg (by lia)] at hx
    obtain ⟨_, rfl⟩ := hx.int_inv; clear hx
    exact ⟨rfl, by intro q; (first | exact Mine.ns q | exact Mine.ft q | exact Mine.sn q | exact Mine.tf q | cases q)⟩
theorem rowsV_get (ab : Bool) : ∀ (rs : Rows) (k i : Nat), (rowsV ab k rs)[i]? = (rs[i]?).map (rowV ab (k + i))
  | [], _, _ => rfl
  | r :: q, k, 0 => rfl
  | r :: q, k, i + 1 => by
    show (rowsV ab (k + 1) q)[i]? = _
    rw [rowsV_get ab q (k + 1) i, show k + 1 + i = k + (i + 1) by lia]; rfl
theorem rowsV_len (ab : Bool) : ∀ (rs : Rows) (k : Nat), (rowsV ab k rs).length = rs.length
  | [], _ => rfl
  | r :: q, k => by show (rowsV ab (k + 1) q).length + 1 = _; rw [rowsV_len ab q]; rfl
theorem hasN_canon (rs : Rows) : hasN (canon rs) = hasN rs := by
  unfold canon
  split
  · rename_i h
    rw [h]
    induction rs with
    | nil => exact h
    | cons r q ih =>
      cases r with
      | none => rfl
      | some p => exact ih h
  · rfl
theorem canon_len (rs : Rows) : (canon rs).length = rs.length := by
  unfold canon; split <;> simp
/-- a row, as it is -/
theorem row_tr {i : Nat} {r : RowD} (hi : rows[i]? = some r) (h100 : i < 50) {r' : Option Nat} (hr : (canon (rsOf rows))[i]? = some r') (pl : Nat → V) : trV pl (tauK asc cond ls rows) (rowV (hasN (canon (rsOf rows))) i r') = rowR r := by
  have e1 : rowAt rows i = (r.getD (0, .int 0, .int 0)) := by unfold rowAt; rw [hi]; (first | exact Mine.ns r | exact Mine.ft r | exact Mine.sn r | exact Mine.tf r | cases r) <;> rfl
  have hcan : r' = r.map fun q => match hasN (rsOf rows) with | true => 0 | false => q.1 := by
    unfold canon at hr
    (first | (revert hr; refine mb (fun _ hr => ?_) (fun _ hr => ?_)) | split at hr)
    · rename_i hN
      unfold rsOf at hr
      rw [List.getElem?_map, List.getElem?_map, hi] at hr
      (first | exact Mine.ns r | exact Mine.ft r | exact Mine.sn r | exact Mine.tf r | cases r) <;> ((first | exact Mine.ns hr | exact Mine.ft hr | exact Mine.sn hr | exact Mine.tf hr | cases hr); rfl)
    · rename_i hN
      unfold rsOf at hr
      rw [List.getElem?_map, hi] at hr
      (first | exact Mine.ns r | exact Mine.ft r | exact Mine.sn r | exact Mine.tf r | cases r) <;> ((first | exact Mine.ns hr | exact Mine.ft hr | exact Mine.sn hr | exact Mine.tf hr | cases hr); rfl)
  rw [hasN_canon]
  cases r with
  | none => rw [hcan]; rfl
  | some q =>
    obtain ⟨p, a, b⟩ := q
    rw [hcan]
    have t1 : tauK asc cond ls rows (200 + 2 * i) = a := by
      unfold tauK
      refine (if_neg (by lia)).trans ((if_neg (by lia)).trans ((if_neg (by lia)).trans ((if_pos (by lia)).trans ((if_pos (by lia)).trans ?_)))); rw [show (200 + 2 * i - 200) / 2 = i by lia, e1]; rfl
    have t2 : tauK asc cond ls rows (201 + 2 * i) = b := by
      unfold tauK
      refine (if_neg (by lia)).trans ((if_neg (by lia)).trans ((if_neg (by lia)).trans ((if_pos (by lia)).trans ((if_neg (by lia)).trans ?_)))); rw [show (201 + 2 * i - 200) / 2 = i by lia, e1]; rfl
    have t3 : tauK asc cond ls rows (300 + i) = .int (.ofNat p) := by
      unfold tauK
      refine (if_neg (by lia)).trans ((if_neg (by lia)).trans ((if_pos (by lia)).trans ?_)); rw [show 300 + i - 300 = i by lia, e1]; rfl
    cases hasN (rsOf rows) with
    | true =>
      show V.tup [tauK asc cond ls rows (300 + i), tauK asc cond ls rows (200 + 2 * i), tauK asc cond ls rows (201 + 2 * i)] = _
      rw [t1, t2, t3]; rfl
    | false =>
      show V.tup [.int (.ofNat p), tauK asc cond ls rows (200 + 2 * i), tauK asc cond ls rows (201 + 2 * i)] = _
      rw [t1, t2]; rfl
theorem rowV_okV (m : Nat) (τ : Nat → V) (ab : Bool) (i : Nat) (r : Option Nat) : okV m τ (rowV ab i r) = true := by
  cases r with
  | none => rfl
  | some p => (first | exact Mine.ns ab | exact Mine.ft ab | exact Mine.sn ab | exact Mine.tf ab | cases ab) <;> rfl
theorem okVs_all {m : Nat} {τ : Nat → V} : ∀ {l : List V}, (∀ x ∈ l, okV m τ x = true) → okVs m τ l = true
  | [], _ => rfl
  | x :: r, h => by
    show (okV m τ x && okVs m τ r) = true
    rw [h x (List.mem_cons_self ..), okVs_all fun y hy => h y (List.mem_cons_of_mem _ hy)]; rfl
theorem rowsV_okV (m : Nat) (τ : Nat → V) (ab : Bool) : ∀ (rs : Rows) (k : Nat), okVs m τ (rowsV ab k rs) = true
  | [], _ => rfl
  | r :: q, k => by
    show (okV m τ (rowV ab k r) && okVs m τ (rowsV ab (k + 1) q)) = true
    rw [rowV_okV, rowsV_okV m τ ab q]; rfl
theorem pick_mem (p : Nat) : ∀ (rs : Rows) (k : Nat) (x : V), x ∈ pick p k rs → ∃ i r, rs[i]? = some r ∧ x = rowV false (k + i) r
  | [], _, _, h => by (first | exact Mine.ns h | exact Mine.ft h | exact Mine.sn h | exact Mine.tf h | cases h)
  | r :: q, k, x, h => by
    unfold pick at h
    (first | (revert h; refine mb (fun _ h => ?_) (fun _ h => ?_)) | split at h)
    · rcases List.mem_cons.mp h with rfl | h
      · exact ⟨0, r, rfl, rfl⟩
      · obtain ⟨i, r', a, b⟩ := pick_mem p q (k + 1) x h
        exact ⟨i + 1, r', a, by rw [b, show k + 1 + i = k + (i + 1) by lia]⟩
    · obtain ⟨i, r', a, b⟩ := pick_mem p q (k + 1) x h
      exact ⟨i + 1, r', a, by rw [b, show k + 1 + i = k + (i + 1) by lia]⟩
/-- what is due: none, or some of the rows -/
theorem due_cases (rs : Rows) : dueV rs = .none ∨ ∃ l, dueV rs = .lst l ∧ hasN rs = false ∧ ∀ x ∈ l, ∃ i r, rs[i]? = some r ∧ x = rowV false i r := by
  unfold dueV
  split
  · exact .inl rfl
  · rename_i hN
    split
    · refine .inr ⟨_, rfl, hN, fun x hx => ?_⟩
      obtain ⟨p, _, hp⟩ := List.mem_flatMap.mp hx
      obtain ⟨i, r, a, b⟩ := pick_mem p rs 0 x hp
      exact ⟨i, r, a, by rw [b, Nat.zero_add]⟩
    · exact .inl rfl
theorem due_okV (m : Nat) (τ : Nat → V) (rs : Rows) : okV m τ (dueV rs) = true := by
  rcases due_cases rs with e | ⟨l, e, _, h⟩
  · rw [e]; rfl
  · rw [e]
    refine okVs_all fun x hx => ?_
    obtain ⟨i, r, _, rfl⟩ := h x hx
    exact rowV_okV _ _ _ _ _
/-- the due value, as it is -/
noncomputable def dueD (asc : Bool) (cond : V) (ls : List V) (rows : List RowD) : V := trV .loc (tauK asc cond ls rows) (dueV (canon (rsOf rows)))
theorem rowR_C (hr : ∀ r, some r ∈ rows → RowOk r) {r : RowD} (h : r ∈ rows) : isC (rowR r) = true ∧ (pdc (rowR r)).depth ≤ 9 := by
  cases r with
  | none => exact ⟨rfl, by show (0 : Nat) ≤ 9; decide⟩
  | some q =>
    obtain ⟨p, a, b⟩ := q
    have R := hr _ h
    refine ⟨?_, ?_⟩
    · show (true && (isC a && (isC b && true))) = true
      rw [R.a, R.b]; rfl
    · show max 0 (max (pdc a).depth (max (pdc b).depth 0)) + 1 ≤ 9
      have h1 := R.da
      have h2 := R.db
      simp only [] at h1 h2
      lia
theorem isCs_tr {τ pl : Nat → V} : ∀ {l : List V}, (∀ x ∈ l, isC (trV pl τ x) = true ∧ (pdc (trV pl τ x)).depth ≤ 9) → isCs (trVs pl τ l) = true ∧ PyData.depthAll (pdcs (trVs pl τ l)) ≤ 9
  | [], _ => ⟨rfl, by show (0 : Nat) ≤ 9; decide⟩
  | x :: r, h => by
    obtain ⟨a, b⟩ := h x (List.mem_cons_self ..)
    obtain ⟨c, d⟩ := isCs_tr fun y hy => h y (List.mem_cons_of_mem _ hy)
    refine ⟨?_, ?_⟩
    · show (isC (trV pl τ x) && isCs (trVs pl τ r)) = true
      rw [a, c]; rfl
    · show max (pdc (trV pl τ x)).depth (PyData.depthAll (pdcs (trVs pl τ r))) ≤ 9
      lia
theorem due_C (h50 : rows.length < 50) (hr : ∀ r, some r ∈ rows → RowOk r) : isC (dueD asc cond ls rows) = true ∧ (pdc (dueD asc cond ls rows)).depth ≤ 12 := by
  unfold dueD
  rcases due_cases (canon (rsOf rows)) with e | ⟨l, e, hN, h⟩
  · rw [e]; exact ⟨rfl, by show (0 : Nat) ≤ 12; decide⟩
  · rw [e]
    have K := isCs_tr (pl := .loc) (τ := tauK asc cond ls rows) (l := l) fun x hx => by
      obtain ⟨i, r', hr', rfl⟩ := h x hx
      have hi : i < rows.length := by
        have := (List.getElem?_eq_some_iff.mp hr').1
        rw [canon_len] at this
        unfold rsOf at this
        simpa using this
      have ei : rows[i]? = some rows[i] := List.getElem?_eq_getElem hi
      have T := row_tr (asc := asc) (cond := cond) (ls := ls) ei (by lia) hr' .loc
      rw [hN] at T
      rw [T]
      exact rowR_C hr (List.getElem_mem hi)
    exact ⟨K.1, by show PyData.depthAll _ + 1 ≤ 12; have := K.2; lia⟩
theorem rows_tr (h50 : rows.length < 50) (pl : Nat → V) : trVs pl (tauK asc cond ls rows) (rowsV (hasN (canon (rsOf rows))) 0 (canon (rsOf rows))) = rows.map rowR := by
  refine List.ext_getElem? fun i => ?_
  have hm : ∀ (l : List V), (trVs pl (tauK asc cond ls rows) l)[i]? = (l[i]?).map (trV pl (tauK asc cond ls rows)) := fun l => by
    induction l generalizing i with
    | nil => rfl
    | cons x r ih => cases i with
      | zero => rfl
      | succ i => exact ih i
  rw [hm, rowsV_get, List.getElem?_map]
  by_cases hi : i < rows.length
  · have ei : rows[i]? = some rows[i] := List.getElem?_eq_getElem hi
    have hl : i < (canon (rsOf rows)).length := by rw [canon_len]; unfold rsOf; simpa using hi
    have ec : (canon (rsOf rows))[i]? = some (canon (rsOf rows))[i] := List.getElem?_eq_getElem hl
    rw [ei, ec]
    show some (trV _ _ (rowV _ (0 + i) _)) = some (rowR _)
    rw [Nat.zero_add, row_tr ei (by lia) ec]
  · rw [List.getElem?_eq_none (by rw [canon_len]; unfold rsOf; simp; lia), List.getElem?_eq_none (by lia)]; rfl
/-- what is known of the parts of a condition -/
structure CondOk (B : Base) (asc : Bool) (cond : V) (ls : List V) (rows : List RowD) : Prop where
  ne : ls ≠ []
  len : ls.length = rows.length
  h50 : rows.length < 50
  cc : clV cond = true
  leaf : ∀ t ∈ ls, LeafOk B t
  rok : ∀ r, some r ∈ rows → RowOk r
  parts : CF B 40 28 [cond] (.lst ls)
  row : ∀ (i : Nat) (t : V) (r : RowD), ls[i]? = some t → rows[i]? = some r → CF B 20 40 [keysB asc, t] (rowR r)
set_option tactic.hygienic true in
theorem sgK_ok (K : CondOk B asc cond ls rows) : SgOk (glb B (tauK asc cond ls rows)) (pK (rowsV (hasN (canon (rsOf rows))) 0 (canon (rsOf rows)))) := by
  intro d a args h v h' hd e l
  replace hd : 49 ≤ d := hd
  replace e : sgK (rowsV (hasN (canon (rsOf rows))) 0 (canon (rsOf rows))) a args h = some (v, h') := e
  have cτ := tauK_cl (asc := asc) K.cc K.ne K.leaf K.rok
  unfold sgK at e
  (first | (revert e; refine mb (fun _ e => ?_) (fun _ e => ?_)) | split at e)
  · rename_i x ha
    obtain rfl := Nat.eq_of_beq_eq_true ha
    revert e; refine zB fun _ e => ?_
    rename_i hx
    obtain rfl := isNm_iff hx
    obtain ⟨rfl, rfl⟩ := oPi e
    refine (K.parts.to (v2 := .lst (nmL 100 (rowsV (hasN (canon (rsOf rows))) 0 (canon (rsOf rows))).length)) cτ rfl ?_ (fun m => nmL_ok (tauK asc cond ls rows) m 100 _) h).up (by lia) l
    show V.lst (trVs .loc _ (nmL 100 _)) = _
    have hL : (rowsV (hasN (canon (rsOf rows))) 0 (canon (rsOf rows))).length = ls.length := by
      rw [rowsV_len, canon_len, K.len]; unfold rsOf; simp
    rw [nmL_tr, hL]
    congr 1
    refine Eq.trans ?_ (range_leaf ls)
    refine List.map_congr_left fun i hi => ?_
    have hi := List.mem_range.mp hi
    have := K.h50
    have := K.len
    unfold tauK
    refine (if_neg (by lia)).trans ((if_neg (by lia)).trans ((if_neg (by lia)).trans ((if_neg (by lia)).trans ((if_pos (by lia)).trans ?_)))); rw [Nat.add_sub_cancel_left]
  · rename_i kk x ha
    revert e; refine zB fun _ e => ?_
    rename_i hk
    replace hk := and2 hk
    obtain rfl := Nat.eq_of_beq_eq_true hk.1
    have hk2 := vB_iff _ hk.2
    subst hk2
    revert e; refine zONat fun _ _ e => ?_
    rename_i j hj
    obtain rfl := nmK_iff hj
    revert e; refine zB fun _ e => ?_
    rename_i h100
    have h100 := Nat.le_of_ble_eq_true h100
    revert e; refine zOV fun _ _ e => ?_
    rename_i r hr
    obtain ⟨rfl, rfl⟩ := oPi e
    rw [rowsV_get, Nat.zero_add] at hr
    obtain ⟨r', e1, e2⟩ := Option.map_eq_some_iff.mp hr
    have hi : j - 100 < rows.length := by
      have := (List.getElem?_eq_some_iff.mp e1).1
      rw [canon_len] at this
      unfold rsOf at this
      simpa using this
    have ei : rows[j - 100]? = some rows[j - 100] := List.getElem?_eq_getElem hi
    obtain ⟨t, el⟩ : ∃ t, ls[j - 100]? = some t := ⟨_, List.getElem?_eq_getElem (by rw [K.len]; exact hi)⟩
    have := K.h50
    refine ((K.row _ _ _ el ei).to cτ ?_ ?_ (fun m => by rw [← e2]; exact rowV_okV _ _ _ _ _) h).up (by lia) l
    · show [trV .loc _ (keysN (.nm 6)), tauK asc cond ls rows j] = _
      have : tauK asc cond ls rows j = t := by
        unfold tauK
        refine (if_neg (by lia)).trans ((if_neg (by lia)).trans ((if_neg (by lia)).trans ((if_neg (by lia)).trans ((if_pos (by lia)).trans ?_)))); rw [leafD_at el]
      rw [this]; rfl
    · rw [← e2]
      exact row_tr ei (by lia) e1 .loc
  · (first | exact Mine.ns e | exact Mine.ft e | exact Mine.sn e | exact Mine.tf e | cases e)
theorem kr_cf (F : Facts B.K) (K : CondOk B asc cond ls rows) (h : krOk (canon (rsOf rows)) = true) : CF B 60 45 [keysB asc, cond] (dueD asc cond ls rows) := by
  obtain ⟨g, e⟩ := outOk_iff h
  have S := right (B := B) (τ := tauK asc cond ls rows) F (p := pK (rowsV (hasN (canon (rsOf rows))) 0 (canon (rsOf rows)))) ⟨rfl, rfl, rfl, rfl, rfl, rfl⟩ rfl (tauK_ok K.ne K.leaf K.rok) (fx_no rfl) (str_no rfl) (sgK_ok K) 80 60
  exact CF.of (tauK_cl K.cc K.ne K.leaf K.rok) (calls_ev S e) rfl (due_okV _ _ _)
theorem ld_cf (F : Facts B.K) (K : CondOk B asc cond ls rows) (h : ldOk (canon (rsOf rows)) = true) : CF B 60 656 [.lst (rows.map rowR)] (dueD asc cond ls rows) := by
  obtain ⟨g, e⟩ := outOk_iff h
  have S := right (B := B) (τ := tauK asc cond ls rows) F (p := par0) ⟨rfl, rfl, rfl, rfl, rfl, rfl⟩ rfl (tauK_ok K.ne K.leaf K.rok) (fx_no rfl) (str_no rfl) (sg_no rfl) 80 60
  have C := CF.of (tauK_cl (asc := asc) K.cc K.ne K.leaf K.rok) (calls_ev S e) (by
    show (okVs 0 _ _ && true) = true
    rw [rowsV_okV]; rfl) (due_okV _ _ _)
  have e2 : trVs .loc (tauK asc cond ls rows) [.lst (rowsV (hasN (canon (rsOf rows))) 0 (canon (rsOf rows)))] = [.lst (rows.map rowR)] := by
    show [V.lst (trVs .loc _ _)] = _
    rw [rows_tr K.h50]
  rw [e2] at C
  exact C
end
end Mine

end
section -- U14
open PySem PySem.W PyProof.Rows
set_option maxHeartbeats 0
namespace Mine
/-- the takes of digits: by hand -/
noncomputable def TakeOk (B : Base) (mods dig : Nat → Nat) (top : Nat) : Prop := ∀ (τ : Nat → V), (∀ k, clV (τ k) = true) → ∀ (h : List MO) (p j : Nat) (v : V), j < top → h[p]? = some (.abs 0 [.int (.ofNat j)]) → (∀ ρ pu x, VR (rcB B τ) ρ pu (.int (.ofNat (dig j))) x → VR (rcB B τ) ρ pu v x) →
  Cal B τ 10 630 [.loc p, .int (.ofNat (mods j))] h v (h.set p (.abs 0 [.int (.ofNat (j + 1))]))
theorem absJ_iff {h : List MO} {j : Nat} (e : absJ h = some j) : ∃ r, h = .abs 0 [.int (.ofNat j)] :: r := by
  unfold absJ at e
  (first | (revert e; refine mb (fun _ e => ?_) (fun _ e => ?_)) | split at e)
  · (first | (revert e; refine mb (fun _ e => ?_) (fun _ e => ?_)) | split at e)
    · (first | (revert e; refine mb (fun _ e => ?_) (fun _ e => ?_)) | split at e)
      · obtain rfl := intNat_iff e
        exact ⟨_, rfl⟩
      · (first | exact Mine.ns e | exact Mine.ft e | exact Mine.sn e | exact Mine.tf e | cases e)
    · (first | exact Mine.ns e | exact Mine.ft e | exact Mine.sn e | exact Mine.tf e | cases e)
  · (first | exact Mine.ns e | exact Mine.ft e | exact Mine.sn e | exact Mine.tf e | cases e)
section
variable {B : Base} {mods dig : Nat → Nat} {top : Nat}
noncomputable def tauP (n : Nat) : List (Nat × V) := [(0, .str (numS n)), (1, .int (.ofNat n))]
theorem tauP_low (n : Nat) : ∀ q ∈ tauP n, q.1 < 50 := by
  intro q hq
  simp only [tauP, List.mem_cons, List.not_mem_nil, or_false] at hq
  rcases hq with rfl | rfl <;> simp
theorem tauP_cl (n : Nat) : ∀ q ∈ tauP n, clV q.2 = true := by
  intro q hq
  simp only [tauP, List.mem_cons, List.not_mem_nil, or_false] at hq
  rcases hq with rfl | rfl <;> rfl
theorem log_small : ∀ n, n < 30 → n.log2 < 1920 := by decide
theorem str_P {n : Nat} (hn : n < 30) {j0 : Nat} {q : Nat × Nat} : StrFx (glb B (tauL (tauP n))) (pP j0 q) := by
  refine str_mk (X := { str := strP }) rfl fun o r e ρ pu x hx => ?_
  replace e : strP o = some r := e
  unfold strP at e
  revert e; refine zB fun _ e => ?_
  rename_i h1
  (first | exact Mine.ns e | exact Mine.ft e | exact Mine.sn e | exact Mine.tf e | cases e)
  obtain rfl := isNm_iff h1
  replace hx := VR.nm_inv hx
  replace hx : VR (rcB B (tauL (tauP n))) ρ pu (.int (.ofNat n)) x := hx
  obtain ⟨_, rfl⟩ := hx.int_inv; clear hx
  refine ⟨_, _, rfl, log_small n hn, fun t' => .nm ?_⟩
  show VR (rcB B (tauL (tauP n))) ρ pu (.str (numS n)) (.str (Str.ofString (toString (n : Int))) t')
  rw [numS_is n hn]
  exact .str _ _
set_option tactic.hygienic true in
theorem sgP_ok (T : TakeOk B mods dig top) {n j0 : Nat} {q : Nat × Nat} (ht : j0 + 2 < top) (m0 : mods j0 = 3) (m1 : mods (j0 + 1) = 9) (m2 : mods (j0 + 2) = 30) (d0 : dig j0 = q.1) (d1 : dig (j0 + 1) = q.2) (d2 : dig (j0 + 2) = n) : SgOk (glb B (tauL (tauP n))) (pP j0 q) := by
  intro d a args h v h' hd e l
  replace hd : 19 ≤ d := hd
  replace e : sgP j0 q a args h = some (v, h') := e
  have cτ := tauL_cl (tauP_cl n)
  unfold sgP at e
  (first | (revert e; refine mb (fun _ e => ?_) (fun _ e => ?_)) | split at e)
  · rename_i x m ha
    obtain rfl := Nat.eq_of_beq_eq_true ha
    (first | (revert e; refine mb (fun _ e => ?_) (fun _ e => ?_)) | split at e)
    · rename_i j mm hj hm
      obtain rfl := intNat_iff hm
      revert e; refine zB fun _ e => ?_
      rename_i hh
      replace hh := and2 hh
      obtain rfl := vB_iff _ hh.1
      obtain rfl := mosB_iff _ hh.2
      (first | (revert e; refine mb (fun _ e => ?_) (fun _ e => ?_)) | split at e)
      · rename_i h1
        replace h1 := and2 h1
        obtain rfl := Nat.eq_of_beq_eq_true h1.1
        obtain rfl := Nat.eq_of_beq_eq_true h1.2
        obtain ⟨rfl, rfl⟩ := oPi e
        have C := T _ cτ [.abs 0 [.int (.ofNat j)]] 0 j (.int (.ofNat q.1)) (by lia) rfl (fun ρ pu x hx => by rw [d0] at hx; exact hx)
        rw [m0] at C
        exact C.up (by lia) l
      · (first | (revert e; refine mb (fun _ e => ?_) (fun _ e => ?_)) | split at e)
        · rename_i h1
          replace h1 := and2 h1
          obtain rfl := Nat.eq_of_beq_eq_true h1.1
          obtain rfl := Nat.eq_of_beq_eq_true h1.2
          obtain ⟨rfl, rfl⟩ := oPi e
          have C := T _ cτ [.abs 0 [.int (.ofNat (j0 + 1))]] 0 (j0 + 1) (.int (.ofNat q.2)) (by lia) rfl (fun ρ pu x hx => by rw [d1] at hx; exact hx)
          rw [m1] at C
          exact C.up (by lia) l
        · revert e; refine zB fun _ e => ?_
          rename_i h1
          replace h1 := and2 h1
          obtain rfl := Nat.eq_of_beq_eq_true h1.1
          obtain rfl := Nat.eq_of_beq_eq_true h1.2
          obtain ⟨rfl, rfl⟩ := oPi e
          have C := T _ cτ [.abs 0 [.int (.ofNat (j0 + 2))]] 0 (j0 + 2) (.nm 1) ht rfl (fun ρ pu x hx => by rw [d2] at hx; exact .nm hx)
          rw [m2] at C
          exact C.up (by lia) l
    · (first | exact Mine.ns e | exact Mine.ft e | exact Mine.sn e | exact Mine.tf e | cases e)
  · (first | exact Mine.ns e | exact Mine.ft e | exact Mine.sn e | exact Mine.tf e | cases e)
/-- _law_part -/
theorem part_cal (F : Facts B.K) (T : TakeOk B mods dig top) {n j0 : Nat} {q : Nat × Nat} (hn : n < 30) (ht : j0 + 2 < top) (m0 : mods j0 = 3) (m1 : mods (j0 + 1) = 9) (m2 : mods (j0 + 2) = 30) (d0 : dig j0 = q.1) (d1 : dig (j0 + 1) = q.2) (d2 : dig (j0 + 2) = n)
    (hp : partOk j0 q = true) {τ : Nat → V} (cτ : ∀ k, clV (τ k) = true) {v : V} {r : List MO} (hv : ∀ pl, trV pl (tauL (tauP n)) (partV q) = trV .loc τ v) (hvo : ∀ m, okV m τ v = true) : Cal B τ 40 651 [.loc 0] (.abs 0 [.int (.ofNat j0)] :: r) v (.abs 0 [.int (.ofNat (j0 + 3))] :: r) := by
  intro l
  obtain ⟨g, e⟩ := outOk_iff hp
  have S := right (B := B) (τ := tauL (tauP n)) F (p := pP j0 q) ⟨rfl, rfl, rfl, rfl, rfl, rfl⟩ rfl (tauL_low (tauP_low n)) (fx_mk (X := { str := strP }) rfl {}) (str_P hn) (sgP_ok T ht m0 m1 m2 d0 d1 d2) 80 40
  exact lift (ps := [0]) (h := .abs 0 [.int (.ofNat j0)] :: r) (hs' := [.abs 0 [.int (.ofNat (j0 + 3))]]) cτ (tauL_cl (tauP_cl n)) (calls_ev S e) (by simp) (by intro j hj; simp at hj; subst hj; simp) rfl rfl rfl rfl (hv _) (hvo _) rfl rfl rfl l
end
/-! ## _law_table_right -/
noncomputable def tabI : List (List Itm) := [
  [⟨false, ⟨shpK "KB" 0, nxW, false⟩, 4⟩, ⟨false, ⟨shpK "KA" 0, [], true⟩, 3⟩],
  [⟨false, ⟨shpK "KB" 0, [], true⟩, 4⟩],
  [⟨false, ⟨shpK "KA" 0, nxW, false⟩, 3⟩, ⟨false, ⟨shpK "KC" 0, [], true⟩, 4⟩],
  [⟨false, ⟨shpK "KA" 0, nxW, false⟩, 3⟩, ⟨true, ⟨shpK "KB" 0, [], true⟩, 4⟩],
  [⟨false, ⟨notS (shpK "KA" 0), [], true⟩, 3⟩],
  [⟨false, ⟨shpK "KA" 0, nxW, false⟩, 3⟩, ⟨false, ⟨shpK "KA" 0, [], true⟩, 3⟩],
  [⟨false, ⟨shpK "KA" 0, nxW, false⟩, 3⟩, ⟨false, ⟨shpK "KB" 3, nxW, false⟩, 7⟩, ⟨false, ⟨shpX, [], true⟩, 0⟩]]
noncomputable def wordsI (its : List Itm) : V := .lst ((kwR its).map fun q => .str q.2)
noncomputable def lookI (args : List V) : List (List Itm) → Option (List Itm)
  | [] => none
  | its :: r => match vsB [wordsI its] args with | true => some its | false => lookI args r
noncomputable def sgTab (a : Addr) (args : List V) (h : List MO) : Option (V × List MO) := match Nat.beq a 637 with
  | true => (match lookI args tabI with | some its => some (treeOf its, h) | none => none)
  | false => none
noncomputable def pTab : Par := { par0 with sg := sgTab, sd := 61 }
noncomputable def tabOk : Bool := outOk (ev pTab 120 85 default (.c (.val (.ref 663)) [keysN (.nm 6)] none) ⟨[], []⟩) (.bool true) []
end Mine

end
section -- UF
open PySem PySem.W PyProof.Rows
set_option maxHeartbeats 0
namespace Mine
theorem all_chunks {α : Type} {p : α → Bool} {l : List α} {c : Nat} (k : Nat) (hc : 0 < c) (hl : l.length ≤ c * k) (h : ∀ i, i < k → ((l.drop (c * i)).take c).all p = true) : l.all p = true := by
  rw [List.all_eq_true]
  intro x hx
  obtain ⟨j, hj⟩ := List.getElem?_of_mem hx
  have hjl := (List.getElem?_eq_some_iff.mp hj).1
  have hi : j / c < k := (Nat.div_lt_iff_lt_mul hc).mpr (by rw [Nat.mul_comm]; lia)
  have hm := Nat.div_add_mod j c
  have hr := Nat.mod_lt j hc
  refine List.all_eq_true.mp (h (j / c) hi) x (List.mem_of_getElem? (i := j % c) ?_)
  rw [List.getElem?_take_of_lt hr, List.getElem?_drop, hm]; exact hj
theorem turns_0 : ((runs.drop (4 * 0)).take 4).all turnOk = true := by decide +kernel
theorem turns_1 : ((runs.drop (4 * 1)).take 4).all turnOk = true := by decide +kernel
theorem turns_2 : ((runs.drop (4 * 2)).take 4).all turnOk = true := by decide +kernel
theorem turns_3 : ((runs.drop (4 * 3)).take 4).all turnOk = true := by decide +kernel
theorem turns_4 : ((runs.drop (4 * 4)).take 4).all turnOk = true := by decide +kernel
theorem turns_5 : ((runs.drop (4 * 5)).take 4).all turnOk = true := by decide +kernel
theorem turns_6 : ((runs.drop (4 * 6)).take 4).all turnOk = true := by decide +kernel
theorem turns_7 : ((runs.drop (4 * 7)).take 4).all turnOk = true := by decide +kernel
theorem turns_8 : ((runs.drop (4 * 8)).take 4).all turnOk = true := by decide +kernel
theorem turns_9 : ((runs.drop (4 * 9)).take 4).all turnOk = true := by decide +kernel
theorem turns_10 : ((runs.drop (4 * 10)).take 4).all turnOk = true := by decide +kernel
theorem turns_11 : ((runs.drop (4 * 11)).take 4).all turnOk = true := by decide +kernel
theorem turns_12 : ((runs.drop (4 * 12)).take 4).all turnOk = true := by decide +kernel
theorem turns_13 : ((runs.drop (4 * 13)).take 4).all turnOk = true := by decide +kernel
theorem turns_14 : ((runs.drop (4 * 14)).take 4).all turnOk = true := by decide +kernel
theorem turns_at : ∀ i, i < 15 → ((runs.drop (4 * i)).take 4).all turnOk = true
  | 0, _ => turns_0
  | 1, _ => turns_1
  | 2, _ => turns_2
  | 3, _ => turns_3
  | 4, _ => turns_4
  | 5, _ => turns_5
  | 6, _ => turns_6
  | 7, _ => turns_7
  | 8, _ => turns_8
  | 9, _ => turns_9
  | 10, _ => turns_10
  | 11, _ => turns_11
  | 12, _ => turns_12
  | 13, _ => turns_13
  | 14, _ => turns_14
  | n + 15, h => absurd h (by lia)
theorem turns : runs.all turnOk = true := all_chunks 15 (by decide) (by decide +kernel) turns_at
theorem reads_0 : ((plans.drop (16 * 0)).take 16).all readOk = true := by decide +kernel
theorem reads_1 : ((plans.drop (16 * 1)).take 16).all readOk = true := by decide +kernel
theorem reads_2 : ((plans.drop (16 * 2)).take 16).all readOk = true := by decide +kernel
theorem reads_3 : ((plans.drop (16 * 3)).take 16).all readOk = true := by decide +kernel
theorem reads_4 : ((plans.drop (16 * 4)).take 16).all readOk = true := by decide +kernel
theorem reads_5 : ((plans.drop (16 * 5)).take 16).all readOk = true := by decide +kernel
theorem reads_at : ∀ i, i < 6 → ((plans.drop (16 * i)).take 16).all readOk = true
  | 0, _ => reads_0
  | 1, _ => reads_1
  | 2, _ => reads_2
  | 3, _ => reads_3
  | 4, _ => reads_4
  | 5, _ => reads_5
  | n + 6, h => absurd h (by lia)
theorem reads : plans.all readOk = true := all_chunks 6 (by decide) (by decide +kernel) reads_at
theorem krs_0 : ((casesK.drop (41 * 0)).take 41).all krOk = true := by decide +kernel
theorem krs_1 : ((casesK.drop (41 * 1)).take 41).all krOk = true := by decide +kernel
theorem krs_2 : ((casesK.drop (41 * 2)).take 41).all krOk = true := by decide +kernel
theorem krs_3 : ((casesK.drop (41 * 3)).take 41).all krOk = true := by decide +kernel
theorem krs_at : ∀ i, i < 4 → ((casesK.drop (41 * i)).take 41).all krOk = true
  | 0, _ => krs_0
  | 1, _ => krs_1
  | 2, _ => krs_2
  | 3, _ => krs_3
  | n + 4, h => absurd h (by lia)
theorem krs : casesK.all krOk = true := all_chunks 4 (by decide) (by decide +kernel) krs_at
theorem lds_0 : ((casesD.drop (49 * 0)).take 49).all ldOk = true := by decide +kernel
theorem lds_1 : ((casesD.drop (49 * 1)).take 49).all ldOk = true := by decide +kernel
theorem lds_2 : ((casesD.drop (49 * 2)).take 49).all ldOk = true := by decide +kernel
theorem lds_at : ∀ i, i < 3 → ((casesD.drop (49 * i)).take 49).all ldOk = true
  | 0, _ => lds_0
  | 1, _ => lds_1
  | 2, _ => lds_2
  | n + 3, h => absurd h (by lia)
theorem lds : casesD.all ldOk = true := all_chunks 3 (by decide) (by decide +kernel) lds_at
theorem rowsOk : allKW.all rowOk = true := by decide +kernel
theorem leavesOk : (allKW.all fun q => leafOk (kwS q).tree) = true := by decide +kernel
theorem notOk : (rowOk1 notT .none && leafOk notT) = true := by decide +kernel
theorem orOk : (rowOk1 orT .none && leafOk orT) = true := by decide +kernel
theorem partsOks : [0, 1, 2, 3, 4].all partsOk = true := by decide +kernel
theorem part_2 : allKW.all (partOk 2) = true := by decide +kernel
theorem part_6 : allKW.all (partOk 6) = true := by decide +kernel
theorem part_10 : allKW.all (partOk 10) = true := by decide +kernel
theorem part_14 : allKW.all (partOk 14) = true := by decide +kernel
theorem tabOk_is : tabOk = true := by decide +kernel
theorem laws_0 : ((scns.drop (30 * 0)).take 30).all lawOk = true := by decide +kernel
theorem laws_1 : ((scns.drop (30 * 1)).take 30).all lawOk = true := by decide +kernel
theorem laws_2 : ((scns.drop (30 * 2)).take 30).all lawOk = true := by decide +kernel
theorem laws_3 : ((scns.drop (30 * 3)).take 30).all lawOk = true := by decide +kernel
theorem laws_4 : ((scns.drop (30 * 4)).take 30).all lawOk = true := by decide +kernel
theorem laws_5 : ((scns.drop (30 * 5)).take 30).all lawOk = true := by decide +kernel
theorem laws_6 : ((scns.drop (30 * 6)).take 30).all lawOk = true := by decide +kernel
theorem laws_7 : ((scns.drop (30 * 7)).take 30).all lawOk = true := by decide +kernel
theorem laws_at : ∀ i, i < 8 → ((scns.drop (30 * i)).take 30).all lawOk = true
  | 0, _ => laws_0
  | 1, _ => laws_1
  | 2, _ => laws_2
  | 3, _ => laws_3
  | 4, _ => laws_4
  | 5, _ => laws_5
  | 6, _ => laws_6
  | 7, _ => laws_7
  | n + 8, h => absurd h (by lia)
theorem laws : scns.all lawOk = true := all_chunks 8 (by decide) (by decide +kernel) laws_at
end Mine

end
section -- U15
open PySem PySem.W PyProof.Rows
set_option maxHeartbeats 0
namespace Mine
/-! ## the shapes, checked -/
noncomputable def kwBase : List (Nat × Nat) := [(0, 8), (0, 7), (0, 6), (0, 5), (0, 4), (0, 3), (0, 0), (1, 8), (1, 7), (1, 5), (1, 4), (1, 3), (1, 0), (2, 8), (2, 7), (2, 5), (2, 4), (2, 3), (2, 0)]
theorem base_is : plain3 = kwBase.map kwS := rfl
noncomputable def nrm (q : Nat × Nat) : Nat × Nat := match q.2 with
  | 6 => (0, 6)
  | 1 => (q.1, 0)
  | 2 => (q.1, 0)
  | w => (q.1, w)
theorem nrm_mem : ∀ q ∈ allKW, nrm q ∈ kwBase := by decide
theorem mem_KW {k w : Nat} (hk : k < 3) (hw : w < 9) : (k, w) ∈ allKW := (by decide +kernel : ∀ k, k < 3 → ∀ w, w < 9 → (k, w) ∈ allKW) k hk w hw
theorem lt_s {P : Nat → Prop} {n : Nat} (h : P n) (r : ∀ w, w < n → P w) : ∀ w, w < n + 1 → P w := fun w hw => (Nat.lt_or_eq_of_le (Nat.le_of_lt_succ hw)).elim (r w) fun e => e ▸ h
theorem lt_9 {P : Nat → Prop} (h0 : P 0) (h1 : P 1) (h2 : P 2) (h3 : P 3) (h4 : P 4) (h5 : P 5) (h6 : P 6) (h7 : P 7) (h8 : P 8) : ∀ w, w < 9 → P w :=
  lt_s h8 (lt_s h7 (lt_s h6 (lt_s h5 (lt_s h4 (lt_s h3 (lt_s h2 (lt_s h1 (lt_s h0 fun _ h => absurd h (Nat.not_lt_zero _)))))))))
theorem kwS_nrm (q : Nat × Nat) (hw : q.2 < 9) : kwS (nrm q) = kwS q :=
  lt_9 (P := fun w => kwS (nrm (q.1, w)) = kwS (q.1, w)) rfl rfl rfl rfl rfl rfl rfl rfl rfl q.2 hw
theorem kwS_plain {q : Nat × Nat} (hq : q ∈ allKW) (hw : q.2 < 9) : kwS q ∈ plain3 := by
  rw [base_is, ← kwS_nrm q hw]
  exact List.mem_map.mpr ⟨_, nrm_mem q hq, rfl⟩
theorem run_mem {s : Shp} (hs : s ∈ plain3) : turnOk ⟨s, [], true⟩ = true ∧ turnOk ⟨s, nxW, false⟩ = true ∧ turnOk ⟨wrap s, [], false⟩ = true := by
  have h : ∀ r ∈ [(⟨s, [], true⟩ : Run), ⟨s, nxW, false⟩, ⟨wrap s, [], false⟩], turnOk r = true := fun r hr =>
    List.all_eq_true.mp turns r (List.mem_append_left _ (List.mem_flatMap.mpr ⟨s, hs, hr⟩))
  exact ⟨h _ (by simp), h _ (by simp), h _ (by simp)⟩
theorem run_not : turnOk ⟨notS (shpK "KA" 0), [], true⟩ = true ∧ turnOk ⟨notS (wrap (shpK "KA" 0)), [], false⟩ = true ∧ turnOk ⟨shpX, [], true⟩ = true := by
  have h : ∀ r ∈ [(⟨notS (shpK "KA" 0), [], true⟩ : Run), ⟨notS (wrap (shpK "KA" 0)), [], false⟩, ⟨shpX, [], true⟩], turnOk r = true := fun r hr =>
    List.all_eq_true.mp turns r (List.mem_append_right _ hr)
  exact ⟨h _ (by simp), h _ (by simp), h _ (by simp)⟩
noncomputable def shpB (s : Shp) : Bool := onlyN s.tree && onlyN s.last && s.win.all tokB && isC (setN (.int 0) s.tree) && Nat.ble (pdc (setN (.int 0) s.tree)).depth 4
noncomputable def allS : List Shp := plain3 ++ (plain3.map wrap ++ [notS (shpK "KA" 0), notS (wrap (shpK "KA" 0)), shpX])
theorem shapesOk : allS.all shpB = true := by decide +kernel
mutual
theorem setN_C (a b : Int) : ∀ d : V, isC (setN (.int a) d) = isC (setN (.int b) d) ∧ (pdc (setN (.int a) d)).depth = (pdc (setN (.int b) d)).depth
  | .tup l => ⟨(setNs_C a b l).1, congrArg (· + 1) (setNs_C a b l).2⟩
  | .lst l => ⟨(setNs_C a b l).1, congrArg (· + 1) (setNs_C a b l).2⟩
  | .obj C ns l => ⟨rfl, rfl⟩
  | .nm k => ⟨rfl, rfl⟩
  | .off _ _ => ⟨rfl, rfl⟩
  | .loc _ => ⟨rfl, rfl⟩
  | .none => ⟨rfl, rfl⟩
  | .bool _ => ⟨rfl, rfl⟩
  | .int _ => ⟨rfl, rfl⟩
  | .str _ => ⟨rfl, rfl⟩
  | .val _ => ⟨rfl, rfl⟩
  | .bi _ => ⟨rfl, rfl⟩
  | .rng _ _ => ⟨rfl, rfl⟩
  | .clo _ _ _ => ⟨rfl, rfl⟩
  | .any => ⟨rfl, rfl⟩
theorem setNs_C (a b : Int) : ∀ d : List V, isCs (setNs (.int a) d) = isCs (setNs (.int b) d) ∧ PyData.depthAll (pdcs (setNs (.int a) d)) = PyData.depthAll (pdcs (setNs (.int b) d))
  | [] => ⟨rfl, rfl⟩
  | d :: r => by
    obtain ⟨h1, h2⟩ := setN_C a b d
    obtain ⟨h3, h4⟩ := setNs_C a b r
    constructor
    · show (isC (setN (.int a) d) && isCs (setNs (.int a) r)) = (isC (setN (.int b) d) && isCs (setNs (.int b) r))
      rw [h1, h3]
    · show max (pdc (setN (.int a) d)).depth (PyData.depthAll (pdcs (setNs (.int a) r))) = max (pdc (setN (.int b) d)).depth (PyData.depthAll (pdcs (setNs (.int b) r)))
      rw [h2, h4]
end
structure ShpOk (s : Shp) : Prop where
  tree : onlyN s.tree = true
  last : onlyN s.last = true
  win : ∀ x ∈ s.win, tokB x = true
  c : ∀ n : Nat, isC (setN (.int (.ofNat n)) s.tree) = true
  d : ∀ n : Nat, (pdc (setN (.int (.ofNat n)) s.tree)).depth ≤ 4
theorem shp_ok {s : Shp} (h : s ∈ allS) : ShpOk s := by
  have := List.all_eq_true.mp shapesOk s h
  unfold shpB at this
  simp only [Bool.and_eq_true] at this
  obtain ⟨⟨⟨⟨h1, h2⟩, h3⟩, h4⟩, h5⟩ := this
  exact ⟨h1, h2, fun x hx => List.all_eq_true.mp h3 x hx, fun n => by rw [(setN_C (.ofNat n) 0 s.tree).1]; exact h4, fun n => by rw [(setN_C (.ofNat n) 0 s.tree).2]; exact Nat.le_of_ble_eq_true h5⟩
theorem itm_ok {t : Itm} (h1 : turnOk t.r = true) (h2 : t.n < 30) (h3 : ShpOk t.r.s) : ItmOk t :=
  ⟨h1, h2, h3.tree, h3.last, h3.c t.n, Nat.le_trans (h3.d t.n) (by decide)⟩
theorem allS_plain {s : Shp} (h : s ∈ plain3) : s ∈ allS := List.mem_append_left _ h
theorem allS_wrap {s : Shp} (h : s ∈ plain3) : wrap s ∈ allS := List.mem_append_right _ (List.mem_append_left _ (List.mem_map.mpr ⟨s, h, rfl⟩))
theorem allS_not {s : Shp} (h : s ∈ [notS (shpK "KA" 0), notS (wrap (shpK "KA" 0)), shpX]) : s ∈ allS := List.mem_append_right _ (List.mem_append_right _ h)
/-- good parts: all that is asked -/
structure ItsOk (its : List Itm) : Prop where
  ok : ∀ t ∈ its, ItmOk t
  win : ∀ t ∈ its, ∀ x ∈ t.r.s.win, tokB x = true
  m40 : its.length < 40
  lt : (kwR its).length < 5000
  fits : fits its
  read : readOk (planOf its) = true
theorem ItsOk.cf {B : Base} (F : Facts B.K) {its : List Itm} (h : ItsOk its) : CF B 62 637 [wordsI its] (treeOf its) := by
  have hw : clVs [wordsI its] = true := by
    show (clVs ((kwR its).map fun q => V.str q.2) && true) = true
    rw [Bool.and_true]
    generalize kwR its = l
    induction l with
    | nil => rfl
    | cons q l ih => exact ih
  have ct := treeOf_cl h.ok
  refine CF.cal (h' := []) (law_read F h.ok h.m40 h.lt h.win h.fits h.read (τ := tau0) tau0_cl (args := [wordsI its]) (v := treeOf its) ?_ ?_ (fun m => okV_cl _ ct) []) hw ct
  · rw [trVs_cl _ hw]; rfl
  · rw [trV_cl _ ct]
theorem pl0 (w k : Nat) (hk : k < 3) (hw : w < 9) : kwS (k, w) ∈ plain3 := kwS_plain (mem_KW hk hw) hw
theorem reads_mem {pl : Plan} (h : pl ∈ plans) : readOk pl = true := List.all_eq_true.mp reads pl h
theorem fit1 {t : Itm} (h : t.r.nx = []) : fits [t] := ⟨.inl h, fun _ => ⟨rfl, h⟩, trivial⟩
theorem tabI_ok : ∀ its ∈ tabI, ItsOk its := by
  have a0 := pl0 0 0 (by decide) (by decide)
  have b0 := pl0 0 1 (by decide) (by decide)
  have c0 := pl0 0 2 (by decide) (by decide)
  have b3 := pl0 3 1 (by decide) (by decide)
  have mk : ∀ (its : List Itm), (∀ t ∈ its, turnOk t.r = true ∧ t.n < 30 ∧ t.r.s ∈ allS) → its.length < 40 → (kwR its).length < 5000 → fits its → planOf its ∈ plans → ItsOk its := fun its h1 h2 h3 h4 h5 =>
    ⟨fun t ht => itm_ok (h1 t ht).1 (h1 t ht).2.1 (shp_ok (h1 t ht).2.2), fun t ht => (shp_ok (h1 t ht).2.2).win, h2, h3, h4, reads_mem h5⟩
  have eN : ∀ {s : Shp} {n : Nat} {c : Bool}, s ∈ plain3 → n < 30 → turnOk (⟨c, ⟨s, nxW, false⟩, n⟩ : Itm).r = true ∧ n < 30 ∧ s ∈ allS := fun h hn => ⟨(run_mem h).2.1, hn, allS_plain h⟩
  have eE : ∀ {s : Shp} {n : Nat} {c : Bool}, s ∈ plain3 → n < 30 → turnOk (⟨c, ⟨s, [], true⟩, n⟩ : Itm).r = true ∧ n < 30 ∧ s ∈ allS := fun h hn => ⟨(run_mem h).1, hn, allS_plain h⟩
  intro its hits
  simp only [tabI, List.mem_cons, List.not_mem_nil, or_false] at hits
  rcases hits with rfl | rfl | rfl | rfl | rfl | rfl | rfl
  · refine mk _ ?_ (by decide) (by decide) ⟨.inr ⟨rfl, by simp⟩, (fun h => by (first | exact Mine.ns h | exact Mine.ft h | exact Mine.sn h | exact Mine.tf h | cases h)), .inl rfl, fun _ => ⟨rfl, rfl⟩, trivial⟩ (by decide +kernel)
    intro t ht
    simp only [List.mem_cons, List.not_mem_nil, or_false] at ht
    rcases ht with rfl | rfl
    · exact eN b0 (by decide)
    · exact eE a0 (by decide)
  · refine mk _ ?_ (by decide) (by decide) (fit1 rfl) (by decide +kernel)
    intro t ht
    simp only [List.mem_cons, List.not_mem_nil, or_false] at ht
    subst ht
    exact eE b0 (by decide)
  · refine mk _ ?_ (by decide) (by decide) ⟨.inr ⟨rfl, by simp⟩, (fun h => by (first | exact Mine.ns h | exact Mine.ft h | exact Mine.sn h | exact Mine.tf h | cases h)), .inl rfl, fun _ => ⟨rfl, rfl⟩, trivial⟩ (by decide +kernel)
    intro t ht
    simp only [List.mem_cons, List.not_mem_nil, or_false] at ht
    rcases ht with rfl | rfl
    · exact eN a0 (by decide)
    · exact eE c0 (by decide)
  · refine mk _ ?_ (by decide) (by decide) ⟨.inr ⟨rfl, by simp⟩, (fun h => by (first | exact Mine.ns h | exact Mine.ft h | exact Mine.sn h | exact Mine.tf h | cases h)), .inl rfl, fun _ => ⟨rfl, rfl⟩, trivial⟩ (by decide +kernel)
    intro t ht
    simp only [List.mem_cons, List.not_mem_nil, or_false] at ht
    rcases ht with rfl | rfl
    · exact eN a0 (by decide)
    · exact eE b0 (by decide)
  · refine mk _ ?_ (by decide) (by decide) (fit1 rfl) (by decide +kernel)
    intro t ht
    simp only [List.mem_cons, List.not_mem_nil, or_false] at ht
    subst ht
    exact ⟨run_not.1, by decide, allS_not (by simp)⟩
  · refine mk _ ?_ (by decide) (by decide) ⟨.inr ⟨rfl, by simp⟩, (fun h => by (first | exact Mine.ns h | exact Mine.ft h | exact Mine.sn h | exact Mine.tf h | cases h)), .inl rfl, fun _ => ⟨rfl, rfl⟩, trivial⟩ (by decide +kernel)
    intro t ht
    simp only [List.mem_cons, List.not_mem_nil, or_false] at ht
    rcases ht with rfl | rfl
    · exact eN a0 (by decide)
    · exact eE a0 (by decide)
  · refine mk _ ?_ (by decide) (by decide) ⟨.inr ⟨rfl, by simp⟩, (fun h => by (first | exact Mine.ns h | exact Mine.ft h | exact Mine.sn h | exact Mine.tf h | cases h)), .inr ⟨rfl, by simp⟩, fun h => (by (first | exact Mine.ns h | exact Mine.ft h | exact Mine.sn h | exact Mine.tf h | cases h)), .inl rfl, fun _ => ⟨rfl, rfl⟩, trivial⟩ (by decide +kernel)
    intro t ht
    simp only [List.mem_cons, List.not_mem_nil, or_false] at ht
    rcases ht with rfl | rfl | rfl
    · exact eN a0 (by decide)
    · exact eN b3 (by decide)
    · exact ⟨run_not.2.2, by decide, allS_not (by simp)⟩
theorem lookI_some {args : List V} {its : List Itm} : ∀ {l : List (List Itm)}, lookI args l = some its → its ∈ l ∧ args = [wordsI its]
  | [], h => by (first | exact Mine.ns h | exact Mine.ft h | exact Mine.sn h | exact Mine.tf h | cases h)
  | q :: r, h => by
    unfold lookI at h
    (first | (revert h; refine mb (fun _ h => ?_) (fun _ h => ?_)) | split at h)
    · rename_i e
      (first | exact Mine.ns h | exact Mine.ft h | exact Mine.sn h | exact Mine.tf h | cases h)
      exact ⟨List.mem_cons_self .., (vsB_iff _ e).symm⟩
    · obtain ⟨a, b⟩ := lookI_some h
      exact ⟨List.mem_cons_of_mem _ a, b⟩
noncomputable def tau6 (asc : Bool) : List (Nat × V) := [(6, .bool asc)]
theorem tau6_low (asc : Bool) : ∀ q ∈ tau6 asc, q.1 < 50 := by
  intro q hq
  simp only [tau6, List.mem_cons, List.not_mem_nil, or_false] at hq
  subst hq; simp
theorem tau6_cl (asc : Bool) : ∀ q ∈ tau6 asc, clV q.2 = true := by
  intro q hq
  simp only [tau6, List.mem_cons, List.not_mem_nil, or_false] at hq
  subst hq; rfl
/-- _law_table_right -/
theorem tab_cf {B : Base} (F : Facts B.K) (asc : Bool) : CF B 85 663 [keysB asc] (.bool true) := by
  obtain ⟨g, e⟩ := outOk_iff tabOk_is
  have cτ := tauL_cl (tau6_cl asc)
  have sg : SgOk (glb B (tauL (tau6 asc))) pTab := by
    intro d a args h v h' hd e l
    replace hd : 61 ≤ d := hd
    replace e : sgTab a args h = some (v, h') := e
    unfold sgTab at e
    (first | (revert e; refine mb (fun _ e => ?_) (fun _ e => ?_)) | split at e)
    · rename_i ha
      obtain rfl := Nat.eq_of_beq_eq_true ha
      (first | (revert e; refine mb (fun _ e => ?_) (fun _ e => ?_)) | split at e)
      · rename_i its hl
        obtain ⟨rfl, rfl⟩ := oPi e
        obtain ⟨hm, rfl⟩ := lookI_some hl
        have I := tabI_ok its hm
        have ct := treeOf_cl I.ok
        have C := I.cf (B := B) F
        exact (C.to cτ (trVs_cl _ C.ca) (trV_cl _ ct) (fun m => okV_cl _ ct) h).up (by lia) l
      · (first | exact Mine.ns e | exact Mine.ft e | exact Mine.sn e | exact Mine.tf e | cases e)
    · (first | exact Mine.ns e | exact Mine.ft e | exact Mine.sn e | exact Mine.tf e | cases e)
  have S := right (B := B) (τ := tauL (tau6 asc)) F (p := pTab) ⟨rfl, rfl, rfl, rfl, rfl, rfl⟩ rfl (tauL_low (tau6_low asc)) (fx_no rfl) (str_no rfl) sg 120 85
  exact CF.of cτ (calls_ev S e) rfl rfl
end Mine

end
section -- U16
open PySem PySem.W PyProof.Rows
set_option maxHeartbeats 0
namespace Mine
/-! ## what a script says -/
structure PartD where
  k : Nat
  w : Nat
  num : Nat
  bd : Nat
structure PartDOk (p : PartD) : Prop where
  k : p.k < 3
  w : p.w < 9
  num : p.num < 30
noncomputable def PartD.s (p : PartD) : Shp := kwS (p.k, p.w)
noncomputable def PartD.bit (p : PartD) : Bool := Nat.beq p.bd 1
noncomputable def PartD.run (p : PartD) (last : Bool) : Run := match p.bit with
  | true => ⟨wrap p.s, [], false⟩
  | false => (match last with | true => ⟨p.s, [], true⟩ | false => ⟨p.s, nxW, false⟩)
noncomputable def tailI : Nat → List Itm
  | 1 => [⟨true, ⟨shpK "KA" 0, [], true⟩, 1⟩]
  | 2 => [⟨false, ⟨notS (wrap (shpK "KA" 0)), [], false⟩, 1⟩]
  | _ => []
noncomputable def mkI (way : Nat) : List PartD → List Itm
  | [] => tailI way
  | p :: r => ⟨false, p.run (isNil r && isNil (tailI way)), p.num⟩ :: mkI way r
noncomputable def clsW : Nat → Nat
  | 0 => 0
  | 1 => 1
  | 2 => 2
  | _ => 3
structure Dat where
  ps : List PartD
  wd : Nat
  ad : Nat
structure DatOk (D : Dat) : Prop where
  ps : ∀ p ∈ D.ps, PartDOk p
  n1 : 1 ≤ D.ps.length
  n4 : D.ps.length ≤ 4
  ad : D.ad < 2
noncomputable def Dat.scn (D : Dat) : Scn := ⟨D.ps.length, D.ps.map PartD.bit, clsW D.wd, Nat.beq D.ad 1⟩
noncomputable def Dat.its (D : Dat) : List Itm := mkI (clsW D.wd) D.ps
noncomputable def PartD.tree (p : PartD) : V := setN (.int (.ofNat p.num)) p.s.tree
noncomputable def rowD (k : Nat) : Nat → Option (V × V)
  | 8 => none
  | 7 => none
  | 6 => none
  | 5 => some (refV (kn k), refV "KB")
  | 4 => some (refV (kn k), refV "N")
  | 3 => some (refV (kn k), numV (.nm 1))
  | _ => some (refV (kn k), numV (.nm 1))
noncomputable def PartD.row (p : PartD) : RowD := (rowD p.k p.w).map fun q => (p.k, setN (.int (.ofNat p.num)) q.1, setN (.int (.ofNat p.num)) q.2)
theorem row_is (p : PartD) (hw : p.w < 9) : rowR p.row = setN (.int (.ofNat p.num)) (rowK p.k p.w) :=
  lt_9 (P := fun w => rowR (PartD.row { p with w := w }) = setN (.int (.ofNat p.num)) (rowK p.k w)) rfl rfl rfl rfl rfl rfl rfl rfl rfl p.w hw
/-! ## its items are good -/
theorem p_plain {p : PartD} (h : PartDOk p) : p.s ∈ plain3 := pl0 p.w p.k h.k h.w
theorem run_ok {p : PartD} (h : PartDOk p) (b : Bool) : turnOk (p.run b) = true ∧ (p.run b).s ∈ allS := by
  obtain ⟨a, c, d⟩ := run_mem (p_plain h)
  unfold PartD.run
  cases p.bit with
  | true => exact ⟨d, allS_wrap (p_plain h)⟩
  | false =>
    cases b with
    | true => exact ⟨a, allS_plain (p_plain h)⟩
    | false => exact ⟨c, allS_plain (p_plain h)⟩
theorem tail_ok (way : Nat) : ∀ t ∈ tailI way, turnOk t.r = true ∧ t.n < 30 ∧ t.r.s ∈ allS := by
  have a0 := pl0 0 0 (by decide) (by decide)
  intro t ht
  unfold tailI at ht
  (first | (revert ht; refine mb (fun _ ht => ?_) (fun _ ht => ?_)) | split at ht)
  · simp only [List.mem_cons, List.not_mem_nil, or_false] at ht
    subst ht
    exact ⟨(run_mem a0).1, by decide, allS_plain a0⟩
  · simp only [List.mem_cons, List.not_mem_nil, or_false] at ht
    subst ht
    exact ⟨run_not.2.1, by decide, allS_not (by simp)⟩
  · (first | exact Mine.ns ht | exact Mine.ft ht | exact Mine.sn ht | exact Mine.tf ht | cases ht)
theorem mkI_ok (way : Nat) : ∀ {ps : List PartD}, (∀ p ∈ ps, PartDOk p) → ∀ t ∈ mkI way ps, turnOk t.r = true ∧ t.n < 30 ∧ t.r.s ∈ allS
  | [], _, t, ht => tail_ok way t ht
  | p :: r, h, t, ht => by
    rcases List.mem_cons.mp ht with rfl | ht
    · have hp := h p (List.mem_cons_self ..)
      have := run_ok hp (isNil r && isNil (tailI way))
      exact ⟨this.1, hp.num, this.2⟩
    · exact mkI_ok way (fun q hq => h q (List.mem_cons_of_mem _ hq)) t ht
theorem tail_fits (way : Nat) : fits (tailI way) := by
  unfold tailI
  split
  · exact fit1 rfl
  · exact fit1 rfl
  · trivial
theorem mkI_nil {way : Nat} {ps : List PartD} : (isNil ps && isNil (tailI way)) = isNil (mkI way ps) := by
  (first | exact Mine.ns ps | exact Mine.ft ps | exact Mine.sn ps | exact Mine.tf ps | cases ps) <;> rfl
theorem nil_of {α : Type} {l : List α} (h : isNil l = true) : l = [] := by (first | exact Mine.ns l | exact Mine.ft l | exact Mine.sn l | exact Mine.tf l | cases l) <;> first | rfl | (first | exact Mine.ns h | exact Mine.ft h | exact Mine.sn h | exact Mine.tf h | cases h)
theorem mkI_fits (way : Nat) : ∀ (ps : List PartD), fits (mkI way ps)
  | [] => tail_fits way
  | p :: r => by
    have hr := mkI_fits way r
    show (_ ∨ _) ∧ _ ∧ fits (mkI way r)
    rw [mkI_nil]
    unfold PartD.run
    cases p.bit with
    | true => exact ⟨.inl rfl, (fun h => by (first | exact Mine.ns h | exact Mine.ft h | exact Mine.sn h | exact Mine.tf h | cases h)), hr⟩
    | false =>
      cases hn : isNil (mkI way r) with
      | true => exact ⟨.inl rfl, fun _ => ⟨nil_of hn, rfl⟩, hr⟩
      | false => exact ⟨.inr ⟨rfl, fun q => (by rw [q] at hn; (first | exact Mine.ns hn | exact Mine.ft hn | exact Mine.sn hn | exact Mine.tf hn | cases hn))⟩, (fun h => by (first | exact Mine.ns h | exact Mine.ft h | exact Mine.sn h | exact Mine.tf h | cases h)), hr⟩
theorem kwS_len : ∀ q ∈ allKW, (kwS q).win.length = 3 := by decide
theorem p_len {p : PartD} (h : PartDOk p) : p.s.win.length = 3 := kwS_len _ (mem_KW h.k h.w)
theorem run_len {p : PartD} (h : PartDOk p) (b : Bool) : (p.run b).s.win.length = match p.bit with | true => 5 | false => 3 := by
  have := p_len h
  unfold PartD.run
  cases p.bit with
  | true => show (tS "(" :: (p.s.win ++ [tS ")"])).length = 5; simp [this]
  | false => (first | exact Mine.ns b | exact Mine.ft b | exact Mine.sn b | exact Mine.tf b | cases b) <;> exact this
noncomputable def planP (ps : List PartD) : Plan := ps.map fun p => (false, match p.bit with | true => 5 | false => 3)
theorem plan_mk (way : Nat) : ∀ {ps : List PartD}, (∀ p ∈ ps, PartDOk p) → planOf (mkI way ps) = planP ps ++ planOf (tailI way)
  | [], _ => rfl
  | p :: r, h => by
    show (false, (p.run _).s.win.length) :: planOf (mkI way r) = _
    rw [run_len (h p (List.mem_cons_self ..)), plan_mk way fun q hq => h q (List.mem_cons_of_mem _ hq)]; rfl
theorem planP_bits : ∀ (ps : List PartD), planP ps ∈ bitsL ps.length
  | [] => List.mem_cons_self ..
  | p :: r => by
    show (false, (match p.bit with | true => 5 | false => 3)) :: planP r ∈ (bitsL r.length).flatMap fun r => [(false, 3) :: r, (false, 5) :: r]
    refine List.mem_flatMap.mpr ⟨_, planP_bits r, ?_⟩
    cases p.bit <;> simp
theorem len_cases {n : Nat} (h1 : 1 ≤ n) (h4 : n ≤ 4) : n = 1 ∨ n = 2 ∨ n = 3 ∨ n = 4 := by lia
theorem plan_mem {D : Dat} (h : DatOk D) : planOf D.its ∈ plans := by
  unfold Dat.its
  rw [plan_mk _ h.ps]
  refine List.mem_cons_of_mem _ (List.mem_flatMap.mpr ⟨planP D.ps, ?_, ?_⟩)
  · have := planP_bits D.ps
    rcases len_cases h.n1 h.n4 with e | e | e | e <;> rw [e] at this
    · exact List.mem_append_left _ this
    · exact List.mem_append_right _ (List.mem_append_left _ this)
    · exact List.mem_append_right _ (List.mem_append_right _ (List.mem_append_left _ this))
    · exact List.mem_append_right _ (List.mem_append_right _ (List.mem_append_right _ this))
  · have e1 : planOf (tailI 1) = [(true, 3)] := rfl
    have e2 : planOf (tailI 2) = [(false, 6)] := rfl
    unfold clsW
    split
    · show planP D.ps ++ [] ∈ _; simp
    · rw [e1]; simp
    · rw [e2]; simp
    · show planP D.ps ++ [] ∈ _; simp
theorem mkI_len (way : Nat) : ∀ (ps : List PartD), (mkI way ps).length ≤ ps.length + 1
  | [] => by
    show (tailI way).length ≤ 1
    unfold tailI
    split <;> simp
  | p :: r => by
    show (mkI way r).length + 1 ≤ r.length + 1 + 1
    have := mkI_len way r
    lia
theorem lenOf_le : ∀ (pl : Plan), (∀ q ∈ pl, q.2 ≤ 6) → lenOf pl ≤ 7 * pl.length
  | [], _ => by show 0 ≤ _; lia
  | [(c, n)], h => by
    have := h (c, n) (List.mem_cons_self ..)
    show n ≤ 7
    simp only [] at this
    lia
  | (c, n) :: q :: r, h => by
    have h1 := h (c, n) (List.mem_cons_self ..)
    have h2 := lenOf_le (q :: r) fun x hx => h x (List.mem_cons_of_mem _ hx)
    show n + 1 + lenOf (q :: r) ≤ 7 * ((q :: r).length + 1)
    simp only [] at h1
    lia
theorem its_ok {D : Dat} (h : DatOk D) : ItsOk D.its := by
  have hm := mkI_ok (clsW D.wd) h.ps
  have hl : D.its.length ≤ 5 := by
    have := mkI_len (clsW D.wd) D.ps
    have := h.n4
    unfold Dat.its
    lia
  refine ⟨fun t ht => itm_ok (hm t ht).1 (hm t ht).2.1 (shp_ok (hm t ht).2.2), fun t ht => (shp_ok (hm t ht).2.2).win, by lia, ?_, mkI_fits _ _, reads_mem (plan_mem h)⟩
  rw [kwR_len]
  have e : planOf D.its = planP D.ps ++ planOf (tailI (clsW D.wd)) := plan_mk _ h.ps
  have hq : ∀ q ∈ planOf D.its, q.2 ≤ 6 := by
    rw [e]
    intro q hq
    rcases List.mem_append.mp hq with hq | hq
    · obtain ⟨p, _, rfl⟩ := List.mem_map.mp hq
      cases p.bit <;> decide
    · unfold tailI at hq
      (first | (revert hq; refine mb (fun _ hq => ?_) (fun _ hq => ?_)) | split at hq)
      · simp only [planOf, List.map_cons, List.map_nil, List.mem_cons, List.not_mem_nil, or_false] at hq
        subst hq; decide
      · simp only [planOf, List.map_cons, List.map_nil, List.mem_cons, List.not_mem_nil, or_false] at hq
        subst hq; decide
      · (first | exact Mine.ns hq | exact Mine.ft hq | exact Mine.sn hq | exact Mine.tf hq | cases hq)
  have := lenOf_le _ hq
  have : (planOf D.its).length = D.its.length := List.length_map ..
  lia
/-! ## the tree, the leaves, the rows -/
noncomputable def foldA (b : V) (l : List V) : V := l.foldl (fun a t => .tup [.str "and", a, t]) b
theorem condT_and : ∀ {r q : List Itm} {b : V}, (∀ t ∈ r, t.conn = false) → condT none b (r ++ q) = condT none (foldA b (r.map Itm.tree)) q
  | [], _, _, _ => rfl
  | t :: r, q, b, h => by
    have ht := h t (List.mem_cons_self ..)
    have := condT_and (r := r) (q := q) (b := .tup [.str "and", b, t.tree]) fun u hu => h u (List.mem_cons_of_mem _ hu)
    show (match t.conn with
      | true => condT (some (joinO none b)) t.tree (r ++ q)
      | false => condT none (.tup [.str "and", b, t.tree]) (r ++ q)) = _
    rw [ht]; exact this
theorem andV_fold {x : V} {l : List V} : ∀ (m : Nat), m ≤ l.length → trV .loc (tauA (x :: l)) (andV m) = foldA x (l.take m)
  | 0, _ => by
    show tauA (x :: l) 100 = x
    unfold tauA leafD; rfl
  | m + 1, h => by
    rw [tr_andV, andV_fold m (by lia)]
    have e : l[m]? = some l[m] := List.getElem?_eq_getElem (by lia)
    have e2 : leafD (x :: l) (m + 1) = l[m] := leafD_at (by rw [List.getElem?_cons_succ]; exact e)
    rw [e2, List.take_succ, e]
    unfold foldA
    rw [List.foldl_append]; rfl
theorem parts_fold {B : Base} (F : Facts B.K) {x : V} {l : List V} (h4 : l.length ≤ 4) (hl : ∀ t ∈ x :: l, LeafOk B t) : CF B 40 28 [foldA x l] (.lst (x :: l)) := by
  have hp : partsOk l.length = true := by
    have := List.all_eq_true.mp partsOks l.length (by
      have : l.length = 0 ∨ l.length = 1 ∨ l.length = 2 ∨ l.length = 3 ∨ l.length = 4 := by lia
      rcases this with e | e | e | e | e <;> rw [e] <;> simp)
    exact this
  have C := parts_cf (B := B) F (ls := x :: l) (n := l.length) rfl hl hp
  rw [andV_fold l.length (Nat.le_refl _), List.take_length] at C
  exact C
noncomputable def notI : V := setN (.int 1) (notS (wrap (shpK "KA" 0))).tree
noncomputable def tailT : V := setN (.int 1) (shpK "KA" 0).tree
noncomputable def Dat.cond (D : Dat) : V := treeOf D.its
noncomputable def Dat.ls (D : Dat) : List V := match clsW D.wd with
  | 1 => [D.cond]
  | 2 => D.ps.map PartD.tree ++ [notI]
  | _ => D.ps.map PartD.tree
noncomputable def Dat.rows (D : Dat) : List RowD := match clsW D.wd with
  | 1 => [none]
  | 2 => D.ps.map PartD.row ++ [none]
  | _ => D.ps.map PartD.row
noncomputable def mkP (way : Nat) : List PartD → List Itm
  | [] => []
  | p :: r => ⟨false, p.run (isNil r && isNil (tailI way)), p.num⟩ :: mkP way r
theorem mkI_split (way : Nat) : ∀ (ps : List PartD), mkI way ps = mkP way ps ++ tailI way
  | [] => rfl
  | p :: r => by
    show _ :: mkI way r = _
    rw [mkI_split way r]; rfl
theorem mkP_conn (way : Nat) : ∀ (ps : List PartD), ∀ t ∈ mkP way ps, t.conn = false
  | [], _, h => by (first | exact Mine.ns h | exact Mine.ft h | exact Mine.sn h | exact Mine.tf h | cases h)
  | p :: r, t, h => by
    rcases List.mem_cons.mp h with rfl | h
    · rfl
    · exact mkP_conn way r t h
theorem run_tree (p : PartD) (b : Bool) : (p.run b).s.tree = p.s.tree := by
  unfold PartD.run
  cases p.bit with
  | true => rfl
  | false => (first | exact Mine.ns b | exact Mine.ft b | exact Mine.sn b | exact Mine.tf b | cases b) <;> rfl
theorem mkP_tree (way : Nat) : ∀ (ps : List PartD), (mkP way ps).map Itm.tree = ps.map PartD.tree
  | [] => rfl
  | p :: r => by
    show Itm.tree _ :: (mkP way r).map Itm.tree = _
    rw [mkP_tree way r]
    show setN _ (p.run _).s.tree :: _ = _
    rw [run_tree]; rfl
theorem cond_is {D : Dat} {p : PartD} {r : List PartD} (e : D.ps = p :: r) : D.cond = condT none (foldA p.tree (r.map PartD.tree)) (tailI (clsW D.wd)) := by
  unfold Dat.cond Dat.its
  rw [e, mkI_split]
  show condT none (Itm.tree _) (mkP _ r ++ tailI _) = _
  rw [condT_and (mkP_conn _ r), mkP_tree]
  show condT none (foldA (setN _ (p.run _).s.tree) _) _ = _
  rw [run_tree]; rfl
end Mine

end
section -- U17
open PySem PySem.W PyProof.Rows
set_option maxHeartbeats 0
namespace Mine
section
variable {B : Base} {D : Dat}
theorem leaf_p (F : Facts B.K) {p : PartD} (h : PartDOk p) : LeafOk B p.tree := by
  have S := shp_ok (allS_plain (p_plain h))
  have hl := List.all_eq_true.mp leavesOk _ (mem_KW h.k h.w)
  exact ⟨setN_cl (n := .int (.ofNat p.num)) rfl _ S.tree, S.c _, Nat.le_trans (S.d _) (by decide), leaf_cf F hl S.tree p.num⟩
theorem depth_p {p : PartD} (h : PartDOk p) : (pdc p.tree).depth ≤ 4 := (shp_ok (allS_plain (p_plain h))).d _
theorem rowK_only : ∀ q ∈ allKW, onlyN (rowK q.1 q.2) = true := by decide
theorem rowcf_p (F : Facts B.K) {p : PartD} (h : PartDOk p) (asc : Bool) : CF B 20 40 [keysB asc, p.tree] (rowR p.row) := by
  have S := shp_ok (allS_plain (p_plain h))
  have hm := mem_KW h.k h.w
  have hr := List.all_eq_true.mp rowsOk _ hm
  rw [row_is p h.w]
  exact row_cf F hr S.tree (rowK_only _ hm) p.num asc
theorem notS_allS : notS (wrap (shpK "KA" 0)) ∈ allS := allS_not (by simp)
theorem leaf_not (F : Facts B.K) : LeafOk B notI := by
  have S := shp_ok notS_allS
  have h := notOk
  replace h := and2 h
  exact ⟨setN_cl (n := .int 1) rfl _ S.tree, S.c 1, Nat.le_trans (S.d 1) (by decide), leaf_cf F (t := notT) h.2 S.tree 1⟩
theorem depth_not : (pdc notI).depth ≤ 4 := (shp_ok notS_allS).d 1
theorem rowcf_not (F : Facts B.K) (asc : Bool) : CF B 20 40 [keysB asc, notI] (rowR none) := by
  have S := shp_ok notS_allS
  have h := notOk
  replace h := and2 h
  exact row_cf F (t := notT) (r := .none) h.1 S.tree rfl 1 asc
theorem isC3 {s : Str} {b t : V} (hs : isC (.str s) = true) (hb : isC b = true) (ht : isC t = true) : isC (.tup [.str s, b, t]) = true := by
  show (isC (.str s) && (isC b && (isC t && true))) = true
  rw [hs, hb, ht]; rfl
theorem foldA_C : ∀ {l : List V} {b : V} {m : Nat}, isC b = true → (pdc b).depth ≤ m → 4 ≤ m → (∀ t ∈ l, isC t = true ∧ (pdc t).depth ≤ 4) → isC (foldA b l) = true ∧ (pdc (foldA b l)).depth ≤ m + l.length
  | [], b, m, h1, h2, _, _ => ⟨h1, h2⟩
  | t :: r, b, m, h1, h2, h3, h => by
    obtain ⟨t1, t2⟩ := h t (List.mem_cons_self ..)
    have := foldA_C (l := r) (b := .tup [.str "and", b, t]) (m := m + 1) (isC3 (by decide) h1 t1) (by
      show max 0 (max (pdc b).depth (max (pdc t).depth 0)) + 1 ≤ m + 1
      lia) (by lia) fun u hu => h u (List.mem_cons_of_mem _ hu)
    refine ⟨this.1, ?_⟩
    have h5 := this.2
    show (pdc (foldA (.tup [.str "and", b, t]) r)).depth ≤ m + (r.length + 1)
    lia
theorem foldA_cl : ∀ {l : List V} {b : V}, clV b = true → (∀ t ∈ l, clV t = true) → clV (foldA b l) = true
  | [], b, h1, _ => h1
  | t :: r, b, h1, h => foldA_cl (l := r) (b := .tup [.str "and", b, t]) (by
      show (true && (clV b && (clV t && true))) = true
      rw [h1, h t (List.mem_cons_self ..)]; rfl) fun u hu => h u (List.mem_cons_of_mem _ hu)
theorem rowOk_p {p : PartD} {r : Nat × V × V} (h : p.row = some r) : RowOk r := by
  unfold PartD.row at h
  obtain ⟨k, w, num, bd⟩ := p
  obtain ⟨q, hq, rfl⟩ := Option.map_eq_some_iff.mp h
  have key : ∀ (x : V), x = refV (kn k) ∨ x = refV "KB" ∨ x = refV "N" ∨ x = numV (.nm 1) → clV (setN (.int (.ofNat num)) x) = true ∧ isC (setN (.int (.ofNat num)) x) = true ∧ (pdc (setN (.int (.ofNat num)) x)).depth ≤ 8 := by
    intro x hx
    have hk : isC (refV (kn k)) = true := by
      unfold kn
      split <;> decide
    rcases hx with rfl | rfl | rfl | rfl
    · exact ⟨rfl, hk, by show (pdc (refV (kn k))).depth ≤ 8; show 2 ≤ 8; decide⟩
    · exact ⟨rfl, by show isC (refV "KB") = true; decide, by show 2 ≤ 8; decide⟩
    · exact ⟨rfl, by show isC (refV "N") = true; decide, by show 2 ≤ 8; decide⟩
    · exact ⟨rfl, by show (isC (.str "number") && true) = true; decide, by show 2 ≤ 8; decide⟩
  have hab : (q.1 = refV (kn k) ∨ q.1 = refV "KB" ∨ q.1 = refV "N" ∨ q.1 = numV (.nm 1)) ∧ (q.2 = refV (kn k) ∨ q.2 = refV "KB" ∨ q.2 = refV "N" ∨ q.2 = numV (.nm 1)) := by
    simp only [] at hq
    unfold rowD at hq
    split at hq <;> (first | exact Mine.ns hq | exact Mine.ft hq | exact Mine.sn hq | exact Mine.tf hq | cases hq) <;> simp
  have a := key _ hab.1
  have b := key _ hab.2
  exact ⟨a.1, b.1, a.2.1, b.2.1, a.2.2, b.2.2⟩
theorem row_k {p : PartD} {r : Nat × V × V} (h : p.row = some r) : r.1 = p.k := by
  unfold PartD.row at h
  obtain ⟨q, hq, rfl⟩ := Option.map_eq_some_iff.mp h
  rfl
/-- all is known of the condition -/
theorem cond_ok (F : Facts B.K) (h : DatOk D) (asc : Bool) : CondOk B asc D.cond D.ls D.rows := by
  have cc := treeOf_cl (its_ok h).ok
  obtain ⟨p, r, e⟩ : ∃ p r, D.ps = p :: r := by
    cases e : D.ps with
    | nil => have := h.n1; rw [e] at this; simp at this
    | cons p r => exact ⟨p, r, rfl⟩
  have ci := cond_is e
  have hp : PartDOk p := h.ps p (by rw [e]; exact List.mem_cons_self ..)
  have hr : ∀ q ∈ r, PartDOk q := fun q hq => h.ps q (by rw [e]; exact List.mem_cons_of_mem _ hq)
  have n4 := h.n4
  rw [e] at n4
  simp only [List.length_cons] at n4
  have hfA : isC (foldA p.tree (r.map PartD.tree)) = true ∧ (pdc (foldA p.tree (r.map PartD.tree))).depth ≤ 4 + r.length := by
    have := foldA_C (l := r.map PartD.tree) (b := p.tree) (m := 4) (leaf_p (B := B) F hp).c (depth_p hp) (by lia) fun t ht => by
      obtain ⟨q, hq, rfl⟩ := List.mem_map.mp ht
      exact ⟨(leaf_p (B := B) F (hr q hq)).c, depth_p (hr q hq)⟩
    simpa using this
  have lfP : ∀ t ∈ D.ps.map PartD.tree, LeafOk B t := fun t ht => by
    obtain ⟨q, hq, rfl⟩ := List.mem_map.mp ht
    exact leaf_p F (h.ps q hq)
  have rkP : ∀ x, some x ∈ D.ps.map PartD.row → RowOk x := fun x hx => by
    obtain ⟨q, hq, e⟩ := List.mem_map.mp hx
    exact rowOk_p e
  have rwP : ∀ (i : Nat) (t : V) (x : RowD), (D.ps.map PartD.tree)[i]? = some t → (D.ps.map PartD.row)[i]? = some x → CF B 20 40 [keysB asc, t] (rowR x) := fun i t x h1 h2 => by
    rw [List.getElem?_map] at h1 h2
    cases eq : D.ps[i]? with
    | none => rw [eq] at h1; (first | exact Mine.ns h1 | exact Mine.ft h1 | exact Mine.sn h1 | exact Mine.tf h1 | cases h1)
    | some q =>
      rw [eq] at h1 h2
      (first | exact Mine.ns h1 | exact Mine.ft h1 | exact Mine.sn h1 | exact Mine.tf h1 | cases h1); (first | exact Mine.ns h2 | exact Mine.ft h2 | exact Mine.sn h2 | exact Mine.tf h2 | cases h2)
      exact rowcf_p F (h.ps q (List.mem_of_getElem? eq)) asc
  have hcls : clsW D.wd = 1 ∨ clsW D.wd = 2 ∨ (clsW D.wd ≠ 1 ∧ clsW D.wd ≠ 2) := by lia
  rcases hcls with hc | hc | ⟨hc1, hc2⟩
  · have els : D.ls = [D.cond] := by unfold Dat.ls; rw [hc]; rfl
    have ers : D.rows = [none] := by unfold Dat.rows; rw [hc]; rfl
    have ec : D.cond = .tup [.str "or", foldA p.tree (r.map PartD.tree), tailT] := by rw [ci, hc]; rfl
    have a0 := shp_ok (allS_plain (pl0 0 0 (by decide) (by decide)))
    have cf := or_cf (B := B) F (x := foldA p.tree (r.map PartD.tree)) (y := tailT) (by have := orOk; replace this := and2 this; exact this.1) (by have := orOk; replace this := and2 this; exact this.2)
      (foldA_cl (leaf_p (B := B) F hp).cl fun t ht => by
        obtain ⟨q, hq, rfl⟩ := List.mem_map.mp ht
        exact (leaf_p (B := B) F (hr q hq)).cl) (setN_cl (n := .int 1) rfl _ a0.tree) asc
    have L : LeafOk B D.cond := by
      refine ⟨cc, ?_, ?_, by rw [ec]; exact cf.2⟩
      · rw [ec]
        exact isC3 (by decide) hfA.1 (a0.c 1)
      · rw [ec]
        show max 0 (max (pdc (foldA p.tree (r.map PartD.tree))).depth (max (pdc tailT).depth 0)) + 1 ≤ 11
        have h1 := hfA.2
        have h2 : (pdc tailT).depth ≤ 4 := a0.d 1
        lia
    rw [els, ers]
    refine ⟨by simp, rfl, by simp, cc, fun t ht => ?_, fun x hx => by simp at hx, ?_, fun i t x h1 h2 => ?_⟩
    · rw [List.mem_singleton.mp ht]; exact L
    · exact L.cf.up (by lia)
    · cases i with
      | zero =>
        (first | exact Mine.ns h1 | exact Mine.ft h1 | exact Mine.sn h1 | exact Mine.tf h1 | cases h1); (first | exact Mine.ns h2 | exact Mine.ft h2 | exact Mine.sn h2 | exact Mine.tf h2 | cases h2)
        rw [ec]; exact cf.1
      | succ i => simp at h1
  · have els : D.ls = D.ps.map PartD.tree ++ [notI] := by unfold Dat.ls; rw [hc]; rfl
    have ers : D.rows = D.ps.map PartD.row ++ [none] := by unfold Dat.rows; rw [hc]; rfl
    have ec : D.cond = foldA p.tree (r.map PartD.tree ++ [notI]) := by
      rw [ci, hc]
      unfold foldA
      rw [List.foldl_append]; rfl
    rw [els, ers]
    refine ⟨by simp, by simp, by simp [e]; lia, cc, fun t ht => ?_, fun x hx => ?_, ?_, fun i t x h1 h2 => ?_⟩
    · rcases List.mem_append.mp ht with ht | ht
      · exact lfP t ht
      · rw [List.mem_singleton.mp ht]; exact leaf_not F
    · rcases List.mem_append.mp hx with hx | hx
      · exact rkP x hx
      · simp at hx
    · rw [ec, e]
      refine parts_fold F (by simp; lia) fun t ht => ?_
      rcases List.mem_cons.mp ht with rfl | ht
      · exact leaf_p F hp
      · rcases List.mem_append.mp ht with ht | ht
        · obtain ⟨q, hq, rfl⟩ := List.mem_map.mp ht
          exact leaf_p F (hr q hq)
        · rw [List.mem_singleton.mp ht]; exact leaf_not F
    · by_cases hi : i < D.ps.length
      · rw [List.getElem?_append_left (by simpa using hi)] at h1 h2
        exact rwP i t x h1 h2
      · rw [List.getElem?_append_right (by simpa using hi)] at h1 h2
        simp only [List.length_map] at h1 h2
        cases hd : i - D.ps.length with
        | zero =>
          rw [hd] at h1 h2
          (first | exact Mine.ns h1 | exact Mine.ft h1 | exact Mine.sn h1 | exact Mine.tf h1 | cases h1); (first | exact Mine.ns h2 | exact Mine.ft h2 | exact Mine.sn h2 | exact Mine.tf h2 | cases h2)
          exact rowcf_not F asc
        | succ m => rw [hd] at h1; simp at h1
  · have els : D.ls = D.ps.map PartD.tree := by
      unfold Dat.ls
      split
      · exact absurd (by assumption) hc1
      · exact absurd (by assumption) hc2
      · rfl
    have ers : D.rows = D.ps.map PartD.row := by
      unfold Dat.rows
      split
      · exact absurd (by assumption) hc1
      · exact absurd (by assumption) hc2
      · rfl
    have et : tailI (clsW D.wd) = [] := by
      unfold tailI
      split
      · exact absurd (by assumption) hc1
      · exact absurd (by assumption) hc2
      · rfl
    have ec : D.cond = foldA p.tree (r.map PartD.tree) := by rw [ci, et]; rfl
    rw [els, ers]
    refine ⟨by rw [e]; simp, by simp, by simp [e]; lia, cc, lfP, rkP, ?_, rwP⟩
    rw [ec, e]
    refine parts_fold F (by simp; lia) fun t ht => ?_
    rcases List.mem_cons.mp ht with rfl | ht
    · exact leaf_p F hp
    · obtain ⟨q, hq, rfl⟩ := List.mem_map.mp ht
      exact leaf_p F (hr q hq)
/-! ## the rows are among the cases -/
theorem halves_mem : ∀ {rs : Rows}, (∀ r ∈ rs, r = none ∨ r = some 0) → rs ∈ halves rs.length
  | [], _ => List.mem_cons_self ..
  | r :: q, h => by
    refine List.mem_flatMap.mpr ⟨q, halves_mem fun x hx => h x (List.mem_cons_of_mem _ hx), ?_⟩
    rcases h r (List.mem_cons_self ..) with rfl | rfl <;> simp
theorem full_mem : ∀ {rs : Rows}, (∀ r ∈ rs, ∃ k, k < 3 ∧ r = some k) → rs ∈ full rs.length
  | [], _ => List.mem_cons_self ..
  | r :: q, h => by
    refine List.mem_flatMap.mpr ⟨q, full_mem fun x hx => h x (List.mem_cons_of_mem _ hx), ?_⟩
    obtain ⟨k, hk, rfl⟩ := h r (List.mem_cons_self ..)
    have : k = 0 ∨ k = 1 ∨ k = 2 := by lia
    rcases this with rfl | rfl | rfl <;> simp
theorem caseH {rs : Rows} (h1 : 1 ≤ rs.length) (h4 : rs.length ≤ 4) (h : ∀ r ∈ rs, r = none ∨ r = some 0) (hN : hasN rs = true) : rs ∈ casesD := by
  have m := halves_mem h
  refine List.mem_append_right _ (List.mem_filter.mpr ⟨?_, hN⟩)
  rcases len_cases h1 h4 with e | e | e | e <;> rw [e] at m
  · exact List.mem_append_left _ m
  · exact List.mem_append_right _ (List.mem_append_left _ m)
  · exact List.mem_append_right _ (List.mem_append_right _ (List.mem_append_left _ m))
  · exact List.mem_append_right _ (List.mem_append_right _ (List.mem_append_right _ m))
theorem caseF {rs : Rows} (h1 : 1 ≤ rs.length) (h4 : rs.length ≤ 4) (h : ∀ r ∈ rs, ∃ k, k < 3 ∧ r = some k) : rs ∈ casesD := by
  have m := full_mem h
  refine List.mem_append_left _ ?_
  rcases len_cases h1 h4 with e | e | e | e <;> rw [e] at m
  · exact List.mem_append_left _ m
  · exact List.mem_append_right _ (List.mem_append_left _ m)
  · exact List.mem_append_right _ (List.mem_append_right _ (List.mem_append_left _ m))
  · exact List.mem_append_right _ (List.mem_append_right _ (List.mem_append_right _ m))
theorem hasN_mem : ∀ {rs : Rows}, none ∈ rs → hasN rs = true
  | [], h => by (first | exact Mine.ns h | exact Mine.ft h | exact Mine.sn h | exact Mine.tf h | cases h)
  | none :: _, _ => rfl
  | some _ :: q, h => hasN_mem (rs := q) (by simpa using h)
theorem hasN_not : ∀ {rs : Rows}, hasN rs = false → ∀ r ∈ rs, r ≠ none
  | [], _, _, h => by (first | exact Mine.ns h | exact Mine.ft h | exact Mine.sn h | exact Mine.tf h | cases h)
  | none :: _, h, _, _ => by (first | exact Mine.ns h | exact Mine.ft h | exact Mine.sn h | exact Mine.tf h | cases h)
  | some k :: q, h, r, hr => by
    rcases List.mem_cons.mp hr with rfl | hr
    · exact fun q => by (first | exact Mine.ns q | exact Mine.ft q | exact Mine.sn q | exact Mine.tf q | cases q)
    · exact hasN_not (rs := q) h r hr
theorem canon_half {rs : Rows} (h : hasN rs = true) : canon rs = rs.map (fun r => r.map fun _ => 0) ∧ ∀ r ∈ canon rs, r = none ∨ r = some 0 := by
  have e : canon rs = rs.map (fun r => r.map fun _ => 0) := by unfold canon; rw [h]
  refine ⟨e, fun r hr => ?_⟩
  rw [e] at hr
  obtain ⟨x, _, rfl⟩ := List.mem_map.mp hr
  (first | exact Mine.ns x | exact Mine.ft x | exact Mine.sn x | exact Mine.tf x | cases x)
  · exact .inl rfl
  · exact .inr rfl
/-- rows of parts are among the cases -/
theorem canon_D {ps : List PartD} (h : ∀ p ∈ ps, PartDOk p) (h1 : 1 ≤ ps.length) (h4 : ps.length ≤ 4) : canon (rsOf (ps.map PartD.row)) ∈ casesD := by
  have hl : (canon (rsOf (ps.map PartD.row))).length = ps.length := by rw [canon_len]; unfold rsOf; simp
  cases hN : hasN (rsOf (ps.map PartD.row)) with
  | true => exact caseH (by rw [hl]; exact h1) (by rw [hl]; exact h4) (canon_half hN).2 (by rw [hasN_canon]; exact hN)
  | false =>
    have e : canon (rsOf (ps.map PartD.row)) = rsOf (ps.map PartD.row) := by unfold canon; rw [hN]
    rw [e] at hl ⊢
    refine caseF (by rw [hl]; exact h1) (by rw [hl]; exact h4) fun r hr => ?_
    have hne := hasN_not hN r hr
    unfold rsOf at hr
    rw [List.map_map] at hr
    obtain ⟨p, hp, rfl⟩ := List.mem_map.mp hr
    cases e2 : p.row with
    | none => exact absurd (by show (p.row).map _ = none; rw [e2]; rfl) hne
    | some x => exact ⟨x.1, by rw [row_k e2]; exact (h p hp).k, by show (p.row).map _ = _; rw [e2]; rfl⟩
theorem rsOf_app (a b : List RowD) : rsOf (a ++ b) = rsOf a ++ rsOf b := by unfold rsOf; rw [List.map_append]
theorem canon_K (h : DatOk D) : krOk (canon (rsOf D.rows)) = true := by
  refine List.all_eq_true.mp krs _ ?_
  have hcls : clsW D.wd = 1 ∨ clsW D.wd = 2 ∨ (clsW D.wd ≠ 1 ∧ clsW D.wd ≠ 2) := by lia
  rcases hcls with hc | hc | ⟨hc1, hc2⟩
  · have ers : D.rows = [none] := by unfold Dat.rows; rw [hc]; rfl
    rw [ers]
    exact List.mem_append_left _ (caseH (by decide) (by decide) (by decide) rfl)
  · have ers : D.rows = D.ps.map PartD.row ++ [none] := by unfold Dat.rows; rw [hc]; rfl
    rw [ers]
    have hN : hasN (rsOf (D.ps.map PartD.row ++ [none])) = true := hasN_mem (by rw [rsOf_app]; exact List.mem_append_right _ (List.mem_singleton.mpr rfl))
    obtain ⟨e1, e2⟩ := canon_half hN
    have hl : (canon (rsOf (D.ps.map PartD.row ++ [none]))).length = D.ps.length + 1 := by rw [canon_len]; unfold rsOf; simp
    by_cases h3 : D.ps.length ≤ 3
    · exact List.mem_append_left _ (caseH (by rw [hl]; lia) (by rw [hl]; lia) e2 (by rw [hasN_canon]; exact hN))
    · refine List.mem_append_right _ (List.mem_map.mpr ⟨(rsOf (D.ps.map PartD.row)).map fun r => r.map fun _ => 0, ?_, ?_⟩)
      · have hl2 : ((rsOf (D.ps.map PartD.row)).map fun r : Option Nat => r.map fun _ => 0).length = 4 := by
          have := h.n4
          unfold rsOf; simp; lia
        rw [← hl2]
        refine halves_mem fun r hr => ?_
        obtain ⟨x, _, rfl⟩ := List.mem_map.mp hr
        (first | exact Mine.ns x | exact Mine.ft x | exact Mine.sn x | exact Mine.tf x | cases x)
        · exact .inl rfl
        · exact .inr rfl
      · rw [e1, rsOf_app, List.map_append]; rfl
  · have ers : D.rows = D.ps.map PartD.row := by
      unfold Dat.rows
      split
      · exact absurd (by assumption) hc1
      · exact absurd (by assumption) hc2
      · rfl
    rw [ers]
    exact List.mem_append_left _ (canon_D h.ps h.n1 h.n4)
theorem odd_f {w : Nat} (h : oddW w = false) : w ≠ 1 ∧ w ≠ 2 := ⟨(by rintro rfl; (first | exact Mine.ns h | exact Mine.ft h | exact Mine.sn h | exact Mine.tf h | cases h)), (by rintro rfl; (first | exact Mine.ns h | exact Mine.ft h | exact Mine.sn h | exact Mine.tf h | cases h))⟩
theorem odd_t {w : Nat} (h : oddW w = true) : w = 1 ∨ w = 2 := by
  match w, h with
  | 0, h => (first | exact Mine.ns h | exact Mine.ft h | exact Mine.sn h | exact Mine.tf h | cases h)
  | 1, _ => exact .inl rfl
  | 2, _ => exact .inr rfl
  | n + 3, h => (first | exact Mine.ns h | exact Mine.ft h | exact Mine.sn h | exact Mine.tf h | cases h)
theorem rows_odd (ho : oddW (clsW D.wd) = false) : D.rows = D.ps.map PartD.row ∧ D.ls = D.ps.map PartD.tree := by
  obtain ⟨hc1, hc2⟩ := odd_f ho
  clear ho
  constructor
  · unfold Dat.rows
    split
    · exact absurd (by assumption) hc1
    · exact absurd (by assumption) hc2
    · rfl
  · unfold Dat.ls
    split
    · exact absurd (by assumption) hc1
    · exact absurd (by assumption) hc2
    · rfl
theorem canon_L (h : DatOk D) (ho : oddW (clsW D.wd) = false) : ldOk (canon (rsOf D.rows)) = true := by
  refine List.all_eq_true.mp lds _ ?_
  rw [(rows_odd ho).1]
  exact canon_D h.ps h.n1 h.n4
theorem due_odd (ho : oddW (clsW D.wd) = true) (asc : Bool) : dueD asc D.cond D.ls D.rows = .none := by
  have hN : hasN (rsOf D.rows) = true := by
    refine hasN_mem ?_
    rcases odd_t ho with e | e
    · have ers : D.rows = [none] := by unfold Dat.rows; rw [e]; rfl
      rw [ers]; exact List.mem_cons_self ..
    · have ers : D.rows = D.ps.map PartD.row ++ [none] := by unfold Dat.rows; rw [e]; rfl
      rw [ers, rsOf_app]; exact List.mem_append_right _ (List.mem_singleton.mpr rfl)
  unfold dueD dueV
  rw [hasN_canon, hN]; rfl
end
end Mine

end
section -- U18
open PySem PySem.W PyProof.Rows
set_option maxHeartbeats 0
namespace Mine
/-! ## a list that is read once -/
section
variable {B : Base} {τ : Nat → V}
theorem frzq {d : Nat} {x : Value} {v : V} {h h' : List MO} {toks : List V} {q : Nat} (hq : h[q]? = some (.lst toks))
    (C : ∀ l, CallsTo (glb B τ) d x [.lst toks] none ⟨l, h.set q .dead⟩ v h' Tr) (l : List (Str × V)) : CallsTo (glb B τ) d x [.loc q] none ⟨l, h⟩ v h' Tr := by
  intro A sc fenv env h₀ L Fm Z fr own ρ pu s vals kws Q I _ hx hk hQ
  refine opq fun GG kk => ?_
  obtain ⟨m, mm, tb, chs, W⟩ := I
  obtain ⟨a, c, e1, e2, e3, e4⟩ := W.ms.at hq
  obtain ⟨vs, n, rfl, hv⟩ := e3.lst_inv; clear e3
  have sub : Sub pu ((a, listOf vs.toArray n) :: pu) := fun p hp => List.mem_cons_of_mem _ hp
  obtain ⟨pre, post, f1, f2⟩ := flat_set_mem (c' := []) e2
  have pm : List.Perm (LED fr own tb chs pu) (LED fr own tb (chs.set q []) ((a, listOf vs.toArray n) :: pu)) := by
    show (fr ++ (own ++ (tb ++ (chs.flatten ++ pu)))).Perm (fr ++ (own ++ (tb ++ ((chs.set q []).flatten ++ (a, listOf vs.toArray n) :: pu))))
    refine List.Perm.append_left _ (List.Perm.append_left _ (List.Perm.append_left _ ?_))
    rw [f1, f2]
    have g1 : pre ++ ([(a, listOf vs.toArray n)] ++ post) ++ pu = pre ++ (a, listOf vs.toArray n) :: (post ++ pu) := by simp
    have g2 : pre ++ ([] ++ post) ++ (a, listOf vs.toArray n) :: pu = pre ++ (post ++ (a, listOf vs.toArray n) :: pu) := by simp
    rw [g1, g2]
    exact List.Perm.append_left _ List.perm_middle.symm
  refine kk ?_
  refine C l A sc fenv env h₀ L Fm Z fr own ρ ((a, listOf vs.toArray n) :: pu) s vals kws Q ?_ trivial ?_ hk (hQ.shift (Pre.refl _) sub (Same.refl s))
  · refine ⟨m, mm, tb, chs.set q [], ⟨W.F, W.z, fun p hp => W.N p (pm.mem_iff.mpr hp), (pm.map (·.1)).nodup_iff.mp W.nd, W.ns, W.nm.mono (Pre.refl _) sub, ?_, (rcB_ok B τ).TBm sub W.tb⟩⟩
    exact MORs.mono (rcB_ok B τ) (Pre.refl _) sub (e4 .dead [] .dead)
  · obtain ⟨_, _, rfl, h1, h2⟩ := hx.cons_inv; clear hx
    obtain rfl := h2.nil_inv; clear h2
    obtain ⟨_, rfl, hr⟩ := h1.loc_inv; clear h1
    rw [e1] at hr
    (first | exact Mine.ns hr | exact Mine.ft hr | exact Mine.sn hr | exact Mine.tf hr | cases hr)
    exact .cons (.lst (List.mem_cons_self ..) (hv.mono (Pre.refl _) sub)) .nil
end
/-! ## the names of the run of law -/
noncomputable def Dat.word (D : Dat) (i j : Nat) : V := match D.ps[i]? with
  | some p => (match (p.s.win.map (kwV p.num))[j]? with | some q => .str q.2 | none => .int 0)
  | none => .int 0
noncomputable def Dat.bdAt (D : Dat) (i : Nat) : Nat := match D.ps[i]? with
  | some p => p.bd
  | none => 0
noncomputable def Dat.asc (D : Dat) : Bool := Nat.beq D.ad 1
noncomputable def Dat.due (D : Dat) : V := dueD D.asc D.cond D.ls D.rows
noncomputable def tauW (D : Dat) (k : Nat) : V :=
  if k = 9 then D.cond else if k = 34 then .int (.ofNat D.wd) else if 10 ≤ k ∧ k < 30 then D.word ((k - 10) / 3) ((k - 10) % 3)
  else if 30 ≤ k ∧ k < 34 then .int (.ofNat (D.bdAt (k - 30))) else if k = 300 then D.due
  else if 200 ≤ k then (match D.ps[k - 200]? with | some p => rowR p.row | none => .none)
  else if 100 ≤ k then (match D.ps[k - 100]? with | some p => p.tree | none => .none) else .int 0
/-- what the digits are -/
structure DigOk (D : Dat) (mods dig : Nat → Nat) : Prop where
  m0 : mods 0 = 2
  d0 : dig 0 = D.ad
  m1 : mods 1 = 4
  d1 : dig 1 = D.ps.length - 1
  mE : mods (2 + 4 * D.ps.length) = 7
  dE : dig (2 + 4 * D.ps.length) = D.wd
  p : ∀ i p, D.ps[i]? = some p → (mods (2 + 4 * i) = 3 ∧ dig (2 + 4 * i) = p.k) ∧ (mods (2 + 4 * i + 1) = 9 ∧ dig (2 + 4 * i + 1) = p.w) ∧ (mods (2 + 4 * i + 2) = 30 ∧ dig (2 + 4 * i + 2) = p.num) ∧ (mods (2 + 4 * i + 3) = 4 ∧ dig (2 + 4 * i + 3) = p.bd)
section
variable {B : Base} {D : Dat} {mods dig : Nat → Nat}
theorem word_at {i j : Nat} {p : PartD} {x : V} (h1 : D.ps[i]? = some p) (h2 : p.s.win[j]? = some x) : D.word i j = .str (kwV p.num x).2 := by
  unfold Dat.word
  rw [h1]
  simp only [List.getElem?_map, h2, Option.map_some]
theorem tW_word {i j : Nat} (hi : i < 5) (hj : j < 3) : tauW D (10 + 3 * i + j) = D.word i j := by
  unfold tauW
  refine (if_neg (by lia)).trans ((if_neg (by lia)).trans ((if_pos (by lia)).trans ?_)); rw [show (10 + 3 * i + j - 10) / 3 = i by lia, show (10 + 3 * i + j - 10) % 3 = j by lia]
theorem tW_tree {i : Nat} (hi : i < 5) {p : PartD} (h : D.ps[i]? = some p) : tauW D (100 + i) = p.tree := by
  unfold tauW
  refine (if_neg (by lia)).trans ((if_neg (by lia)).trans ((if_neg (by lia)).trans ((if_neg (by lia)).trans ((if_neg (by lia)).trans ((if_neg (by lia)).trans ((if_pos (by lia)).trans ?_)))))); rw [Nat.add_sub_cancel_left, h]
theorem tW_row {i : Nat} (hi : i < 5) {p : PartD} (h : D.ps[i]? = some p) : tauW D (200 + i) = rowR p.row := by
  unfold tauW
  refine (if_neg (by lia)).trans ((if_neg (by lia)).trans ((if_neg (by lia)).trans ((if_neg (by lia)).trans ((if_neg (by lia)).trans ((if_pos (by lia)).trans ?_))))); rw [Nat.add_sub_cancel_left, h]
theorem tW_due : tauW D 300 = D.due := by
  unfold tauW
  refine (if_neg (by lia)).trans ((if_neg (by lia)).trans ((if_neg (by lia)).trans ((if_neg (by lia)).trans ((if_pos rfl).trans rfl))))
theorem rowR_cl {p : PartD} : clV (rowR p.row) = true := by
  cases e : p.row with
  | none => rfl
  | some r =>
    have R := rowOk_p e
    show (true && (clV r.2.1 && (clV r.2.2 && true))) = true
    rw [R.ca, R.cb]; rfl
theorem tauW_cl (F : Facts B.K) (h : DatOk D) (k : Nat) : clV (tauW D k) = true := by
  have K := cond_ok (B := B) F h D.asc
  unfold tauW
  split
  · exact K.cc
  · split
    · rfl
    · split
      · unfold Dat.word
        split
        · split <;> rfl
        · rfl
      · split
        · rfl
        · split
          · exact trV_isCl (tauK_cl K.cc K.ne K.leaf K.rok) _ (due_okV _ _ _)
          · split
            · split
              · exact rowR_cl
              · rfl
            · split
              · split
                · rename_i p e
                  exact (leaf_p (B := B) F (h.ps p (List.mem_of_getElem? e))).cl
                · rfl
              · rfl
theorem rowR_C2 {p : PartD} : isC (rowR p.row) = true ∧ (pdc (rowR p.row)).depth ≤ 9 :=
  rowR_C (rows := [p.row]) (fun r hr => rowOk_p (List.mem_singleton.mp hr).symm) (List.mem_cons_self ..)
theorem tauW_ok (F : Facts B.K) (h : DatOk D) : TauOk (rcB B (tauW D)) := by
  have K := cond_ok (B := B) F h D.asc
  have key : ∀ k, 100 ≤ k → isC (tauW D k) = true ∧ (pdc (tauW D k)).depth ≤ 12 := fun k hk => by
    unfold tauW
    rw [if_neg (by lia), if_neg (by lia), if_neg (by lia), if_neg (by lia)]
    split
    · exact due_C K.h50 K.rok
    · split
      · split
        · exact ⟨rowR_C2.1, Nat.le_trans rowR_C2.2 (by decide)⟩
        · exact ⟨rfl, by show (0 : Nat) ≤ 12; decide⟩
      · split
        · rename_i p e
          have L := leaf_p (B := B) F (h.ps p (List.mem_of_getElem? e))
          exact ⟨L.c, Nat.le_trans L.d (by decide)⟩
        · exact ⟨rfl, by show (0 : Nat) ≤ 12; decide⟩
  refine ⟨fun k hk => (key k hk).1, fun k hk => (key k hk).2, fun k h1 h2 ρ pu x hx => ?_⟩
  replace hx : VR (rcB B (tauW D)) ρ pu (tauW D k) x := hx
  unfold tauW at hx
  rw [if_neg (by lia), if_neg (by lia), if_neg (by lia), if_neg (by lia), if_neg (by lia), if_neg (by lia), if_neg (by lia)] at hx
  obtain ⟨_, rfl⟩ := hx.int_inv; clear hx
  exact ⟨rfl, by intro q; (first | exact Mine.ns q | exact Mine.ft q | exact Mine.sn q | exact Mine.tf q | cases q)⟩
/-! ## the words -/
theorem tok_word {n : Nat} {t : V} {k w : Str} (T : TokOk n t k w) {pl : Nat → V} : trV pl (tauL (tauP n)) (wordOfT t) = .str w := by
  rcases T.eq with e | ⟨e, e2⟩
  · rw [e]; rfl
  · rw [e, e2]; rfl
theorem win3 {p : PartD} (h : PartDOk p) : ∃ x y z, p.s.win = [x, y, z] := by
  have := p_len h
  match e : p.s.win, this with
  | [x, y, z], _ => exact ⟨x, y, z, rfl⟩
theorem part_tr (h : DatOk D) {i : Nat} {p : PartD} (e : D.ps[i]? = some p) (pl pl' : Nat → V) : trV pl (tauL (tauP p.num)) (partV (p.k, p.w)) = trV pl' (tauW D) (.tup [.lst (partW i), .nm (100 + i), .nm (200 + i)]) := by
  have hp := h.ps p (List.mem_of_getElem? e)
  have hi : i < 5 := by
    have := (List.getElem?_eq_some_iff.mp e).1
    have := h.n4
    lia
  have S := shp_ok (allS_plain (p_plain hp))
  obtain ⟨x, y, z, ew⟩ := win3 hp
  have ew' : (kwS (p.k, p.w)).win = [x, y, z] := ew
  have w : ∀ j t, p.s.win[j]? = some t → trV pl (tauL (tauP p.num)) (wordOfT t) = D.word i j := fun j t ht => by
    obtain ⟨k, w, T⟩ := tokB_ok hp.num (S.win t (List.mem_of_getElem? ht))
    rw [tok_word T, word_at e ht, T.kw]
  show V.tup [.lst (trVs pl _ ((kwS (p.k, p.w)).win.map wordOfT)), trV pl _ p.s.tree, trV pl _ (rowK p.k p.w)] = V.tup [.lst [tauW D (10 + 3 * i), tauW D (11 + 3 * i), tauW D (12 + 3 * i)], tauW D (100 + i), tauW D (200 + i)]
  rw [trV_setN (n := .int (.ofNat p.num)) rfl _ S.tree, trV_setN (n := .int (.ofNat p.num)) rfl _ (rowK_only _ (mem_KW hp.k hp.w)), tW_tree hi e, tW_row hi e, row_is p hp.w, ew']
  have a0 := tW_word (D := D) hi (j := 0) (by decide)
  have a1 := tW_word (D := D) hi (j := 1) (by decide)
  have a2 := tW_word (D := D) hi (j := 2) (by decide)
  rw [show 10 + 3 * i + 1 = 11 + 3 * i by lia] at a1
  rw [show 10 + 3 * i + 2 = 12 + 3 * i by lia] at a2
  rw [Nat.add_zero] at a0
  rw [a0, a1, a2, ← w 0 x (by rw [ew]; rfl), ← w 1 y (by rw [ew]; rfl), ← w 2 z (by rw [ew]; rfl)]
  rfl
theorem trVs_app {pl τ : Nat → V} : ∀ (a b : List V), trVs pl τ (a ++ b) = trVs pl τ a ++ trVs pl τ b
  | [], _ => rfl
  | x :: r, b => by show trV pl τ x :: trVs pl τ (r ++ b) = _; rw [trVs_app r b]; rfl
noncomputable abbrev sW (l : KW) : List V := l.map fun q => V.str q.2
theorem wrap_tr (h : DatOk D) {i : Nat} {p : PartD} (e : D.ps[i]? = some p) (b : Bool) (pl : Nat → V) : trVs pl (tauW D) (wrapW p.bit (partW i)) = sW (((p.run b).s.win).map (kwV p.num)) := by
  have hp := h.ps p (List.mem_of_getElem? e)
  have hi : i < 5 := by
    have := (List.getElem?_eq_some_iff.mp e).1
    have := h.n4
    lia
  obtain ⟨x, y, z, ew⟩ := win3 hp
  have a0 := tW_word (D := D) hi (j := 0) (by decide)
  have a1 := tW_word (D := D) hi (j := 1) (by decide)
  have a2 := tW_word (D := D) hi (j := 2) (by decide)
  rw [show 10 + 3 * i + 1 = 11 + 3 * i by lia] at a1
  rw [show 10 + 3 * i + 2 = 12 + 3 * i by lia] at a2
  rw [Nat.add_zero] at a0
  have base : trVs pl (tauW D) (partW i) = sW (p.s.win.map (kwV p.num)) := by
    show [tauW D (10 + 3 * i), tauW D (11 + 3 * i), tauW D (12 + 3 * i)] = _
    rw [a0, a1, a2, word_at e (j := 0) (x := x) (by rw [ew]; rfl), word_at e (j := 1) (x := y) (by rw [ew]; rfl), word_at e (j := 2) (x := z) (by rw [ew]; rfl), ew]
    rfl
  unfold PartD.run
  cases hb : p.bit with
  | true =>
    show V.str "(" :: trVs pl (tauW D) (partW i ++ [.str ")"]) = _
    rw [trVs_app, base]
    show _ = V.str "(" :: sW ((p.s.win ++ [tS ")"]).map (kwV p.num))
    unfold sW
    rw [List.map_append, List.map_append]; rfl
  | false =>
    show trVs pl (tauW D) (partW i) = _
    rw [base]
    (first | exact Mine.ns b | exact Mine.ft b | exact Mine.sn b | exact Mine.tf b | cases b) <;> rfl
theorem tail_tr (way : Nat) (pl : Nat → V) : trVs pl (tauW D) (tailW way) = sW (kwC (tailI way)) := by
  unfold tailW
  split
  · kernel_rfl
  · kernel_rfl
  · have : tailI way = [] := by
      unfold tailI
      split
      · exact absurd rfl (by assumption)
      · exact absurd rfl (by assumption)
      · rfl
    rw [this]; rfl
theorem wC_tr (h : DatOk D) (way : Nat) (pl : Nat → V) : ∀ (r : List PartD) (i : Nat), (∀ j, r[j]? = D.ps[i + j]?) → trVs pl (tauW D) (wC way i (r.map PartD.bit)) = sW (kwC (mkI way r))
  | [], i, _ => tail_tr way pl
  | p :: r, i, hr => by
    have e : D.ps[i]? = some p := (hr 0).symm
    have IH := wC_tr h way pl r (i + 1) fun j => by rw [show i + 1 + j = i + (j + 1) by lia]; exact hr (j + 1)
    show V.str "AND" :: trVs pl (tauW D) (wrapW p.bit (partW i) ++ wC way (i + 1) (r.map PartD.bit)) = V.str (connW false) :: sW (kwW _ ++ kwC (mkI way r))
    rw [trVs_app, IH, wrap_tr h e (isNil r && isNil (tailI way))]
    unfold sW
    rw [List.map_append]; rfl
theorem words_tr (h : DatOk D) (pl : Nat → V) : trVs pl (tauW D) (wordsW D.scn) = sW (kwR D.its) := by
  obtain ⟨p, r, e⟩ : ∃ p r, D.ps = p :: r := by
    cases e : D.ps with
    | nil => have := h.n1; rw [e] at this; simp at this
    | cons p r => exact ⟨p, r, rfl⟩
  have e0 : D.ps[0]? = some p := by rw [e]; rfl
  have IH := wC_tr h (clsW D.wd) pl r 1 fun j => by rw [e, Nat.add_comm]; rfl
  unfold wordsW Dat.scn Dat.its
  simp only []
  rw [e]
  show trVs pl (tauW D) (wrapW p.bit (partW 0) ++ wC (clsW D.wd) 1 (r.map PartD.bit)) = sW (kwW _ ++ kwC (mkI (clsW D.wd) r))
  rw [trVs_app, IH, wrap_tr h e0 (isNil r && isNil (tailI (clsW D.wd)))]
  unfold sW
  rw [List.map_append]; rfl
end
end Mine

end
section -- U19
open PySem PySem.W PyProof.Rows
set_option maxHeartbeats 0
namespace Mine
section
variable {B : Base} {D : Dat} {mods dig : Nat → Nat}
theorem trV_nm {pl τ : Nat → V} (k : Nat) : trV pl τ (.nm k) = τ k := rfl
theorem put0_eq {r : List MO} {i j : Nat} : put0 (.abs 0 [.int (.ofNat i)] :: r) j = .abs 0 [.int (.ofNat j)] :: r := rfl
theorem absJ_get {h : List MO} {j : Nat} (e : absJ h = some j) : h[0]? = some (.abs 0 [.int (.ofNat j)]) := by
  obtain ⟨r, rfl⟩ := absJ_iff e; rfl
theorem part_at (h : DatOk D) {i : Nat} (hi : i < D.ps.length) {q : Nat × Nat} (hq : q ∈ allKW) : partOk (2 + 4 * i) q = true := by
  have n4 := h.n4
  have : i = 0 ∨ i = 1 ∨ i = 2 ∨ i = 3 := by lia
  rcases this with rfl | rfl | rfl | rfl
  · exact List.all_eq_true.mp part_2 q hq
  · exact List.all_eq_true.mp part_6 q hq
  · exact List.all_eq_true.mp part_10 q hq
  · exact List.all_eq_true.mp part_14 q hq
theorem tr_parts (h : DatOk D) (pl : Nat → V) : trVs pl (tauW D) (nmL 100 D.ps.length) = D.ps.map PartD.tree := by
  rw [nmL_tr]
  refine List.ext_getElem? fun i => ?_
  rw [List.getElem?_map, List.getElem?_map]
  have n4 := h.n4
  by_cases hi : i < D.ps.length
  · have e : D.ps[i]? = some D.ps[i] := List.getElem?_eq_getElem hi
    rw [List.getElem?_range hi, e]
    show some (tauW D (100 + i)) = _
    rw [tW_tree (by lia) e]; rfl
  · rw [List.getElem?_eq_none (by simpa using hi), List.getElem?_eq_none (by lia)]; rfl
theorem tr_rows (h : DatOk D) (pl : Nat → V) : trVs pl (tauW D) (nmL 200 D.ps.length) = (D.ps.map PartD.row).map rowR := by
  rw [nmL_tr]
  refine List.ext_getElem? fun i => ?_
  rw [List.getElem?_map, List.getElem?_map, List.getElem?_map]
  have n4 := h.n4
  by_cases hi : i < D.ps.length
  · have e : D.ps[i]? = some D.ps[i] := List.getElem?_eq_getElem hi
    rw [List.getElem?_range hi, e]
    show some (tauW D (200 + i)) = _
    rw [tW_row (by lia) e]; rfl
  · rw [List.getElem?_eq_none (by simpa using hi), List.getElem?_eq_none (by lia)]; rfl
theorem keysB_cl (b : Bool) : clV (keysB b) = true := rfl
theorem take_v (h : DatOk D) (G : DigOk D mods dig) {j m : Nat} {v : V} (e : takeW D.scn j m = some v) : j < 3 + 4 * D.ps.length ∧ m = mods j ∧ ∀ ρ pu x, VR (rcB B (tauW D)) ρ pu (.int (.ofNat (dig j))) x → VR (rcB B (tauW D)) ρ pu v x := by
  unfold takeW at e
  (first | (revert e; refine mb (fun _ e => ?_) (fun _ e => ?_)) | split at e)
  · rename_i q
    replace q := and2 q
    obtain rfl := Nat.eq_of_beq_eq_true q.1
    obtain rfl := Nat.eq_of_beq_eq_true q.2
    (first | exact Mine.ns e | exact Mine.ft e | exact Mine.sn e | exact Mine.tf e | cases e)
    refine ⟨by lia, G.m0.symm, fun ρ pu x hx => ?_⟩
    rw [G.d0] at hx
    have : (Int.ofNat D.ad) = ascI (Nat.beq D.ad 1) := by
      have := h.ad
      have : D.ad = 0 ∨ D.ad = 1 := by lia
      rcases this with e | e <;> rw [e] <;> rfl
    rw [this] at hx
    exact hx
  · (first | (revert e; refine mb (fun _ e => ?_) (fun _ e => ?_)) | split at e)
    · rename_i q
      replace q := and2 q
      obtain rfl := Nat.eq_of_beq_eq_true q.1
      obtain rfl := Nat.eq_of_beq_eq_true q.2
      (first | exact Mine.ns e | exact Mine.ft e | exact Mine.sn e | exact Mine.tf e | cases e)
      refine ⟨by lia, G.m1.symm, fun ρ pu x hx => ?_⟩
      rw [G.d1] at hx
      exact hx
    · (first | (revert e; refine mb (fun _ e => ?_) (fun _ e => ?_)) | split at e)
      · rename_i q
        replace q := and2 q
        have hj : j = 2 + 4 * D.ps.length := Nat.eq_of_beq_eq_true q.1
        obtain rfl := Nat.eq_of_beq_eq_true q.2
        subst hj
        (first | exact Mine.ns e | exact Mine.ft e | exact Mine.sn e | exact Mine.tf e | cases e)
        refine ⟨by lia, G.mE.symm, fun ρ pu x hx => .nm ?_⟩
        rw [G.dE] at hx
        have : tauW D 34 = .int (.ofNat D.wd) := by unfold tauW; rw [if_neg (by lia), if_pos rfl]
        show VR _ ρ pu (tauW D 34) x
        rw [this]; exact hx
      · (first | (revert e; refine mb (fun _ e => ?_) (fun _ e => ?_)) | split at e)
        · rename_i q
          replace q := and3 q
          have hj : j < 2 + 4 * D.ps.length := Nat.blt_eq.mp q.1.1
          have h4 := Nat.eq_of_beq_eq_true q.1.2
          obtain rfl := Nat.eq_of_beq_eq_true q.2
          (first | exact Mine.ns e | exact Mine.ft e | exact Mine.sn e | exact Mine.tf e | cases e)
          have h1 : j ≠ 1 := by
            rintro rfl
            have : (Nat.beq 1 1 && Nat.beq 4 4) = false := by assumption
            (first | exact Mine.ns this | exact Mine.ft this | exact Mine.sn this | exact Mine.tf this | cases this)
          obtain ⟨i, rfl⟩ : ∃ i, j = 2 + 4 * i + 3 := ⟨(j - 5) / 4, by lia⟩
          have hi : i < D.ps.length := by lia
          have hp : D.ps[i]? = some D.ps[i] := List.getElem?_eq_getElem hi
          obtain ⟨_, _, _, g1, g2⟩ := G.p i _ hp
          refine ⟨by lia, g1.symm, fun ρ pu x hx => .nm ?_⟩
          rw [g2] at hx
          have n4 := h.n4
          have e2 : 30 + (2 + 4 * i + 3 - 5) / 4 = 30 + i := by lia
          have : tauW D (30 + i) = .int (.ofNat (D.bdAt i)) := by
            unfold tauW
            refine (if_neg (by lia)).trans ((if_neg (by lia)).trans ((if_neg (by lia)).trans ((if_pos (by lia)).trans ?_))); rw [Nat.add_sub_cancel_left]
          show VR _ ρ pu (tauW D (30 + (2 + 4 * i + 3 - 5) / 4)) x
          rw [e2, this]
          unfold Dat.bdAt
          rw [hp]; exact hx
        · (first | exact Mine.ns e | exact Mine.ft e | exact Mine.sn e | exact Mine.tf e | cases e)
set_option tactic.hygienic true in
theorem sgW_ok (F : Facts B.K) (h : DatOk D) (G : DigOk D mods dig) (T : TakeOk B mods dig (3 + 4 * D.ps.length)) : SgOk (glb B (tauW D)) (pW D.scn) := by
  intro d a args hh v h' hd e l
  replace hd : 84 ≤ d := hd
  replace e : sgW D.scn a args hh = some (v, h') := e
  have cτ := tauW_cl (B := B) F h
  have K := cond_ok (B := B) F h D.asc
  unfold sgW at e
  (first | (revert e; refine mb (fun _ e => ?_) (fun _ e => ?_)) | split at e)
  · rename_i ha
    obtain rfl := Nat.eq_of_beq_eq_true ha
    unfold sgTake at e
    (first | (revert e; refine mb (fun _ e => ?_) (fun _ e => ?_)) | split at e)
    · rename_i x m
      (first | (revert e; refine mb (fun _ e => ?_) (fun _ e => ?_)) | split at e)
      · rename_i j mm hj hm hx
        obtain rfl := intNat_iff hm
        obtain rfl := vB_iff _ hx
        (first | (revert e; refine mb (fun _ e => ?_) (fun _ e => ?_)) | split at e)
        · rename_i w hw
          (first | exact Mine.ns e | exact Mine.ft e | exact Mine.sn e | exact Mine.tf e | cases e)
          obtain ⟨t1, rfl, t3⟩ := take_v (B := B) h G hw
          have C := T _ cτ hh 0 j v t1 (absJ_get hj) t3
          exact C.up (by lia) l
        · (first | exact Mine.ns e | exact Mine.ft e | exact Mine.sn e | exact Mine.tf e | cases e)
      · (first | exact Mine.ns e | exact Mine.ft e | exact Mine.sn e | exact Mine.tf e | cases e)
    · (first | exact Mine.ns e | exact Mine.ft e | exact Mine.sn e | exact Mine.tf e | cases e)
  · (first | (revert e; refine mb (fun _ e => ?_) (fun _ e => ?_)) | split at e)
    · rename_i ha
      obtain rfl := Nat.eq_of_beq_eq_true ha
      unfold sgPart at e
      (first | (revert e; refine mb (fun _ e => ?_) (fun _ e => ?_)) | split at e)
      · rename_i j hj hx
        obtain rfl := vsB_iff _ hx
        (first | (revert e; refine mb (fun _ e => ?_) (fun _ e => ?_)) | split at e)
        · rename_i q
          replace q := and3 q
          have q1 := Nat.le_of_ble_eq_true q.1.1
          have q2 : j < 2 + 4 * D.ps.length := Nat.blt_eq.mp q.1.2
          have q3 := Nat.eq_of_beq_eq_true q.2
          obtain ⟨rfl, rfl⟩ := oPi e
          obtain ⟨i, rfl⟩ : ∃ i, j = 2 + 4 * i := ⟨(j - 2) / 4, by lia⟩
          have hi : i < D.ps.length := by lia
          have hp : D.ps[i]? = some D.ps[i] := List.getElem?_eq_getElem hi
          have P := h.ps _ (List.mem_of_getElem? hp)
          obtain ⟨⟨m0, d0⟩, ⟨m1, d1⟩, ⟨m2, d2⟩, _⟩ := G.p i _ hp
          have e2 : (2 + 4 * i - 2) / 4 = i := by lia
          rw [e2]
          obtain ⟨r, rfl⟩ := absJ_iff hj
          have C := part_cal (B := B) F T (n := D.ps[i].num) (j0 := 2 + 4 * i) (q := (D.ps[i].k, D.ps[i].w)) P.num (by lia) m0 m1 m2 d0 d1 d2 (part_at h hi (mem_KW P.k P.w)) cτ (v := .tup [.lst (partW i), .nm (100 + i), .nm (200 + i)]) (r := r) (fun pl => part_tr h hp pl .loc) (fun _ => rfl)
          exact C.up (by lia) l
        · (first | exact Mine.ns e | exact Mine.ft e | exact Mine.sn e | exact Mine.tf e | cases e)
      · (first | exact Mine.ns e | exact Mine.ft e | exact Mine.sn e | exact Mine.tf e | cases e)
    · (first | (revert e; refine mb (fun _ e => ?_) (fun _ e => ?_)) | split at e)
      · rename_i ha
        rw [Bool.and_eq_true, Bool.not_eq_true'] at ha
        obtain rfl := Nat.eq_of_beq_eq_true ha.1
        have ho : oddW (clsW D.wd) = false := ha.2
        unfold sgDue at e
        (first | (revert e; refine mb (fun _ e => ?_) (fun _ e => ?_)) | split at e)
        · rename_i q hq
          (first | (revert e; refine mb (fun _ e => ?_) (fun _ e => ?_)) | split at e)
          · rename_i mo hmo
            (first | (revert e; refine mb (fun _ e => ?_) (fun _ e => ?_)) | split at e)
            · rename_i hm
              have hm2 := moB_iff _ hm
              subst hm2
              obtain ⟨rfl, rfl⟩ := oPi e
              obtain ⟨r1, r2⟩ := rows_odd ho
              have C := ld_cf (B := B) F K (canon_L h ho)
              have hargs : args = [.loc q] := by
                unfold asLoc1 at hq
                (first | (revert hq; refine mb (fun _ hq => ?_) (fun _ hq => ?_)) | split at hq)
                · rename_i w
                  (first | exact Mine.ns w | exact Mine.ft w | exact Mine.sn w | exact Mine.tf w | cases w) <;> first | ((first | exact Mine.ns hq | exact Mine.ft hq | exact Mine.sn hq | exact Mine.tf hq | cases hq); rfl) | (first | exact Mine.ns hq | exact Mine.ft hq | exact Mine.sn hq | exact Mine.tf hq | cases hq)
                · (first | exact Mine.ns hq | exact Mine.ft hq | exact Mine.sn hq | exact Mine.tf hq | cases hq)
              subst hargs
              refine frzq hmo (fun l => ?_) l
              refine (C.to cτ (args2 := [.lst (nmL 200 D.ps.length)]) (v2 := .nm 300) ?_ tW_due (fun _ => rfl) (hh.set q .dead)).up (by lia) l
              show [V.lst (trVs .loc (tauW D) (nmL 200 D.ps.length))] = _
              rw [tr_rows h, r1]
            · (first | exact Mine.ns e | exact Mine.ft e | exact Mine.sn e | exact Mine.tf e | cases e)
          · (first | exact Mine.ns e | exact Mine.ft e | exact Mine.sn e | exact Mine.tf e | cases e)
        · (first | exact Mine.ns e | exact Mine.ft e | exact Mine.sn e | exact Mine.tf e | cases e)
      · (first | (revert e; refine mb (fun _ e => ?_) (fun _ e => ?_)) | split at e)
        · rename_i ha
          replace ha := and2 ha
          obtain rfl := Nat.eq_of_beq_eq_true ha.1
          obtain rfl := vsB_iff _ ha.2
          obtain ⟨rfl, rfl⟩ := oPi e
          have C := (its_ok h).cf (B := B) F
          refine (C.to cτ (v2 := .nm 9) ?_ rfl (fun _ => rfl) hh).up (by lia) l
          show [V.lst (trVs .loc (tauW D) (wordsW D.scn))] = _
          rw [words_tr h]; rfl
        · (first | (revert e; refine mb (fun _ e => ?_) (fun _ e => ?_)) | split at e)
          · rename_i ha
            rw [Bool.and_eq_true, Bool.and_eq_true, Bool.not_eq_true'] at ha
            obtain rfl := Nat.eq_of_beq_eq_true ha.1.1
            obtain rfl := vsB_iff _ ha.1.2
            have ho : oddW (clsW D.wd) = false := ha.2
            obtain ⟨rfl, rfl⟩ := oPi e
            obtain ⟨r1, r2⟩ := rows_odd ho
            refine (K.parts.to cτ (args2 := [.nm 9]) (v2 := .lst (nmL 100 D.ps.length)) rfl ?_ (fun m => nmL_ok (tauW D) m 100 _) hh).up (by lia) l
            show V.lst (trVs .loc (tauW D) (nmL 100 D.ps.length)) = _
            rw [tr_parts h, r2]
          · (first | (revert e; refine mb (fun _ e => ?_) (fun _ e => ?_)) | split at e)
            · rename_i ha
              replace ha := and2 ha
              obtain rfl := Nat.eq_of_beq_eq_true ha.1
              obtain rfl := vsB_iff _ ha.2
              obtain ⟨rfl, rfl⟩ := oPi e
              have C := kr_cf (B := B) F K (canon_K h)
              refine (C.to cτ (args2 := [keysB D.asc, .nm 9]) rfl ?_ (fun _ => ?_) hh).up (by lia) l
              · show trV .loc (tauW D) (match oddW (clsW D.wd) with | true => V.none | false => .nm 300) = _
                cases ho : oddW (clsW D.wd) with
                | true => exact (due_odd ho _).symm
                | false => exact tW_due
              · show okV _ (tauW D) (match oddW (clsW D.wd) with | true => V.none | false => .nm 300) = true
                cases oddW (clsW D.wd) <;> rfl
            · (first | (revert e; refine mb (fun _ e => ?_) (fun _ e => ?_)) | split at e)
              · rename_i ha
                replace ha := and2 ha
                obtain rfl := Nat.eq_of_beq_eq_true ha.1
                obtain rfl := vsB_iff _ ha.2
                obtain ⟨rfl, rfl⟩ := oPi e
                exact ((tab_cf (B := B) F D.asc).to cτ (args2 := [keysB D.asc]) (v2 := .bool true) rfl rfl (fun _ => rfl) hh).up (by lia) l
              · (first | exact Mine.ns e | exact Mine.ft e | exact Mine.sn e | exact Mine.tf e | cases e)
set_option tactic.hygienic true in
theorem bitK_iff {a : V} {i : Nat} (h : bitK a = some i) : a = .nm (30 + i) ∧ i < 4 := by
  unfold bitK at h
  (first | (revert h; refine mb (fun _ h => ?_) (fun _ h => ?_)) | split at h)
  · rename_i k hk
    obtain rfl := nmK_iff hk
    (first | (revert h; refine mb (fun _ h => ?_) (fun _ h => ?_)) | split at h)
    · rename_i q
      replace q := and2 q
      have q1 := Nat.le_of_ble_eq_true q.1
      have q2 : k < 34 := Nat.blt_eq.mp q.2
      (first | exact Mine.ns h | exact Mine.ft h | exact Mine.sn h | exact Mine.tf h | cases h)
      exact ⟨by rw [show 30 + (k - 30) = k by lia], by lia⟩
    · (first | exact Mine.ns h | exact Mine.ft h | exact Mine.sn h | exact Mine.tf h | cases h)
  · (first | exact Mine.ns h | exact Mine.ft h | exact Mine.sn h | exact Mine.tf h | cases h)
theorem cls_eq (w j : Nat) (hj : j < 3) : Nat.beq (clsW w) j = Nat.beq w j := by
  match w with
  | 0 => rfl
  | 1 => rfl
  | 2 => rfl
  | n + 3 =>
    show Nat.beq 3 j = Nat.beq (n + 3) j
    have : j = 0 ∨ j = 1 ∨ j = 2 := by lia
    rcases this with rfl | rfl | rfl <;> rfl
theorem cls_gt (w : Nat) : Nat.blt 2 (clsW w) = Nat.blt 2 w := by
  match w with
  | 0 => rfl
  | 1 => rfl
  | 2 => rfl
  | n + 3 =>
    show Nat.blt 2 3 = Nat.blt 2 (n + 3)
    have h1 : Nat.blt 2 (n + 3) = true := Nat.blt_eq.mpr (by lia)
    rw [h1]; rfl
set_option tactic.hygienic true in
theorem fxW_ok : FxOk (glb B (tauW D)) (pW D.scn) := by
  refine fx_mk (X := { eq := eqW D.scn, gt := gtW D.scn }) rfl { eq := fun a b r e ρ pu x y hx hy => .inr ?_, gt := fun a b r e ρ pu x y hx hy => ?_ }
  · replace e : (eqW D.scn a b).bind bOf = some r := e
    have t34 : tauW D 34 = .int (.ofNat D.wd) := by unfold tauW; rw [if_neg (by lia), if_pos rfl]
    unfold eqW at e
    (first | (revert e; refine mb (fun _ e => ?_) (fun _ e => ?_)) | split at e)
    · rename_i i e1 e2
      obtain ⟨rfl, hi⟩ := bitK_iff e1
      obtain rfl := intNat_iff e2
      have : tauW D (30 + i) = .int (.ofNat (D.bdAt i)) := by
        unfold tauW
        refine (if_neg (by lia)).trans ((if_neg (by lia)).trans ((if_neg (by lia)).trans ((if_pos (by lia)).trans ?_))); rw [Nat.add_sub_cancel_left]
      replace hx := VR.nm_inv hx
      replace hx : VR (rcB B (tauW D)) ρ pu (tauW D (30 + i)) x := hx
      rw [this] at hx
      obtain ⟨_, rfl⟩ := hx.int_inv; clear hx
      obtain ⟨_, rfl⟩ := hy.int_inv; clear hy
      (first | exact Mine.ns e | exact Mine.ft e | exact Mine.sn e | exact Mine.tf e | cases e)
      refine ⟨_, _, _, _, rfl, rfl, ?_⟩
      show Nat.beq (D.bdAt i) 1 = getB (D.ps.map PartD.bit) i
      unfold getB Dat.bdAt
      rw [List.getElem?_map]
      cases D.ps[i]? <;> rfl
    · rename_i j e1 e2
      obtain rfl := intNat_iff e2
      (first | (revert e; refine mb (fun _ e => ?_) (fun _ e => ?_)) | split at e)
      · rename_i q
        replace q := and2 q
        obtain rfl := isNm_iff q.1
        have hj : j < 3 := Nat.blt_eq.mp q.2
        replace hx := VR.nm_inv hx
        replace hx : VR (rcB B (tauW D)) ρ pu (tauW D 34) x := hx
        rw [t34] at hx
        obtain ⟨_, rfl⟩ := hx.int_inv; clear hx
        obtain ⟨_, rfl⟩ := hy.int_inv; clear hy
        (first | exact Mine.ns e | exact Mine.ft e | exact Mine.sn e | exact Mine.tf e | cases e)
        exact ⟨_, _, _, _, rfl, rfl, (cls_eq D.wd j hj).symm⟩
      · (first | exact Mine.ns e | exact Mine.ft e | exact Mine.sn e | exact Mine.tf e | cases e)
    · (first | exact Mine.ns e | exact Mine.ft e | exact Mine.sn e | exact Mine.tf e | cases e)
  · replace e : (gtW D.scn a b).bind bOf = some r := e
    have t34 : tauW D 34 = .int (.ofNat D.wd) := by unfold tauW; rw [if_neg (by lia), if_pos rfl]
    unfold gtW at e
    (first | (revert e; refine mb (fun _ e => ?_) (fun _ e => ?_)) | split at e)
    · rename_i e1 e2
      obtain rfl := isNm_iff e1
      obtain rfl := intNat_iff e2
      replace hx := VR.nm_inv hx
      replace hx : VR (rcB B (tauW D)) ρ pu (tauW D 34) x := hx
      rw [t34] at hx
      obtain ⟨_, rfl⟩ := hx.int_inv; clear hx
      obtain ⟨_, rfl⟩ := hy.int_inv; clear hy
      (first | exact Mine.ns e | exact Mine.ft e | exact Mine.sn e | exact Mine.tf e | cases e)
      exact ⟨_, _, _, _, rfl, rfl, (cls_gt D.wd).symm⟩
    · (first | exact Mine.ns e | exact Mine.ft e | exact Mine.sn e | exact Mine.tf e | cases e)
theorem bitsB_mem : ∀ (l : List Bool), l ∈ bitsB l.length
  | [] => List.mem_cons_self ..
  | b :: r => by
    refine List.mem_flatMap.mpr ⟨r, bitsB_mem r, ?_⟩
    (first | exact Mine.ns b | exact Mine.ft b | exact Mine.sn b | exact Mine.tf b | cases b) <;> simp
theorem scn_mem (h : DatOk D) : D.scn ∈ scns := by
  have hb := bitsB_mem (D.ps.map PartD.bit)
  rw [List.length_map] at hb
  refine List.mem_flatMap.mpr ⟨D.ps.length, ?_, List.mem_flatMap.mpr ⟨_, hb, List.mem_flatMap.mpr ⟨clsW D.wd, ?_, ?_⟩⟩⟩
  · rcases len_cases h.n1 h.n4 with e | e | e | e <;> rw [e] <;> simp
  · unfold clsW; split <;> simp
  · unfold Dat.scn
    cases Nat.beq D.ad 1 <;> simp
set_option tactic.hygienic true in
theorem law_run (h : DatOk D) : ∃ st', ev (pW D.scn) 100 95 lawF.sc (.s lawB) ⟨lawL, [.abs 0 [.int 0]]⟩ = some (.f (.ret (.bool true)), st') := by
  have := List.all_eq_true.mp laws _ (scn_mem h)
  unfold lawOk retTrue at this
  (first | (revert this; refine mb (fun _ this => ?_) (fun _ this => ?_)) | split at this)
  · rename_i v st' e
    (first | (revert this; refine mb (fun _ this => ?_) (fun _ this => ?_)) | split at this)
    · exact ⟨st', e⟩
    · (first | exact Mine.ns this | exact Mine.ft this | exact Mine.sn this | exact Mine.tf this | cases this)
  · (first | exact Mine.ns this | exact Mine.ft this | exact Mine.sn this | exact Mine.tf this | cases this)
/-- the rest of the law, as a rule -/
theorem law_snd (F : Facts B.K) (h : DatOk D) (G : DigOk D mods dig) (T : TakeOk B mods dig (3 + 4 * D.ps.length)) : Snd (glb B (tauW D)) 95 (ev (pW D.scn) 100 95) :=
  right F (p := pW D.scn) ⟨rfl, rfl, rfl, rfl, rfl, rfl⟩ rfl (tauW_ok F h) fxW_ok (str_mk (X := { eq := eqW D.scn, gt := gtW D.scn }) rfl fun o r e => by (first | exact Mine.ns e | exact Mine.ft e | exact Mine.sn e | exact Mine.tf e | cases e)) (sgW_ok F h G T) 100 95
end
end Mine

end
section -- U20
open PySem PySem.W PyProof.Rows
set_option maxHeartbeats 0
namespace Mine
/-! ## statements by hand -/
noncomputable def ExS (G : Glb) (d : Nat) (sc : Scope) (x : Stmt) (st : St) (fl : Fl) (st' : St) : Prop :=
  ∀ A fenv h₀ L, Frm G A sc fenv fenv h₀ L d → ∀ fr own ρ pu s Q, FnF fenv L sc own → Inv G.R Z0 fenv h₀ L fr own st ρ pu s.heap → FP G.R fenv h₀ L fr own st' ρ pu s fl Q → wpAny (model G.prog G.w) A (exec x fenv) Q noE s
noncomputable def ExSs (G : Glb) (d : Nat) (sc : Scope) (xs : List Stmt) (st : St) (fl : Fl) (st' : St) : Prop :=
  ∀ A fenv h₀ L, Frm G A sc fenv fenv h₀ L d → ∀ fr own ρ pu s Q, FnF fenv L sc own → Inv G.R Z0 fenv h₀ L fr own st ρ pu s.heap → FP G.R fenv h₀ L fr own st' ρ pu s fl Q → wpAny (model G.prog G.w) A (execs xs fenv) Q noE s
section
variable {G : Glb} {d : Nat} {sc : Scope} {x : Stmt} {r : List Stmt} {st st1 st' : St} {fl : Fl} {v : V}
theorem ExSs.cons (h1 : ExS G d sc x st .nx st1) (h2 : ExSs G d sc r st1 fl st') : ExSs G d sc (x :: r) st fl st' := by
  intro A fenv h₀ L Fm fr own ρ pu s Q FF I hQ
  refine wpAny_execs_cons (h1 A fenv h₀ L Fm fr own ρ pu s _ FF I ?_)
  intro ρ' pu' own' s' p1 q1 o1 I' sm
  exact h2 A fenv h₀ L Fm fr own' ρ' pu' s' Q (FF.own o1) I' (hQ.shift p1 q1 o1 sm)
theorem ExSs.ret (h1 : ExS G d sc x st (.ret v) st') : ExSs G d sc (x :: r) st (.ret v) st' := by
  intro A fenv h₀ L Fm fr own ρ pu s Q FF I hQ
  refine wpAny_execs_cons (h1 A fenv h₀ L Fm fr own ρ pu s _ FF I ?_)
  intro v' ρ' pu' own' s' p1 q1 o1 vr I' sm
  exact hQ v' ρ' pu' own' s' p1 q1 o1 vr I' sm
theorem ExSs.of {ih : Ev} (S : SSt G d ih) (e : ih sc (.s r) st = some (.f fl, st')) : ExSs G d sc r st fl st' :=
  fun A fenv h₀ L Fm fr own ρ pu s Q FF I hQ => S _ _ _ _ _ e A fenv h₀ L Fm fr own ρ pu s Q FF I hQ
theorem ExS.of {p : Par} (K : Prims G p) {ih : Ev} (H : Snd G d ih) (e : evS p ih sc st x = some (fl, st')) : ExS G d sc x st fl st' :=
  fun _ _ _ _ Fm _ _ _ _ _ _ FF I hQ => s_one K H e Fm FF I hQ
/-- an evaluator of these statements alone -/
theorem ExSs.ih (X : ExSs G d sc r st fl st') : ∃ ih : Ev, SSt G d ih ∧ ih sc (.s r) st = some (.f fl, st') := by
  classical
  refine ⟨fun sc' q st₁ => if sc' = sc ∧ q = .s r ∧ st₁ = st then some (.f fl, st') else none, ?_, if_pos ⟨rfl, rfl, rfl⟩⟩
  intro sc' ss st₁ fl' st₂ e
  replace e : (if sc' = sc ∧ Req.s ss = .s r ∧ st₁ = st then some (Out.f fl, st') else none) = some (.f fl', st₂) := e
  by_cases h : sc' = sc ∧ Req.s ss = .s r ∧ st₁ = st
  · rw [if_pos h] at e
    obtain ⟨rfl, h2, rfl⟩ := h
    (first | exact Mine.ns h2 | exact Mine.ft h2 | exact Mine.sn h2 | exact Mine.tf h2 | cases h2)
    (first | exact Mine.ns e | exact Mine.ft e | exact Mine.sn e | exact Mine.tf e | cases e)
    exact X
  · rw [if_neg h] at e
    (first | exact Mine.ns e | exact Mine.ft e | exact Mine.sn e | exact Mine.tf e | cases e)
/-- a def, by its statements -/
theorem def_calls {a : Addr} {q : FR} (K : FnOk G a q) {args : List V} {l : List (Str × V)} {h : List MO} (hb : bindA q args = some l) (X : ExSs G d q.sc q.body ⟨l, h⟩ fl st') (l0 : List (Str × V)) : CallsTo G (d + 1) (.ref a) args none ⟨l0, h⟩ (flV fl) st'.h Tr := by
  obtain ⟨ih, S, e⟩ := X.ih
  intro A sc fenv env h₀ L Fm Z fr own ρ pu s vals kws Q I _ hv hk hQ
  have hk : kws = [] := hk
  subst hk
  exact c_fun S Fm K hb e I hv hQ
end
/-! ## _law_take -/
noncomputable def tkF : FR := fdef 63
noncomputable def tkB : List Stmt := tkF.body
noncomputable def scK : Scope := tkF.sc
noncomputable def stT (x : Stmt) : Expr := kidS 0 x
noncomputable def stB (x : Stmt) : List Stmt := subS x
noncomputable def stP : Stmt → Pos
  | .Assign _ _ p => p
  | _ => default
noncomputable def k0 : Stmt := tkB.getD 0 default
noncomputable def k1 : Stmt := tkB.getD 1 default
noncomputable def k2 : Stmt := tkB.getD 2 default
noncomputable def k3 : Stmt := tkB.getD 3 default
noncomputable def k4 : Stmt := tkB.getD 4 default
theorem tk_is : tkB = [k0, k1, k2, k3, k4] := by kernel_rfl
theorem k0_is : kindS k0 = .ifs (stT k0) (stB k0) [] := by kernel_rfl
theorem k0_t : stT k0 = .Compare (cmL (stT k0)) [.Eq] [cmC 0 (stT k0)] (posE (stT k0)) := by kernel_rfl
theorem k0_l : kindE (cmL (stT k0)) = .call (caF (cmL (stT k0))) [argAt 0 (cmL (stT k0))] := by kernel_rfl
theorem k1_is : kindS k1 = .asg (asgT k1) (asgX k1) := by kernel_rfl
theorem k1_x : kindE (asgX k1) = .bin (biL (asgX k1)) .Mod (biR (asgX k1)) := by kernel_rfl
theorem k1_l : kindE (biL (asgX k1)) = .sub (suO (biL (asgX k1))) (suI (biL (asgX k1))) := by kernel_rfl
theorem k2_is : k2 = .Assign [.Subscript (suO (asgT k2)) (suI (asgT k2)) (posE (asgT k2))] (asgX k2) (stP k2) := by kernel_rfl
theorem k2_c : isComp (asgX k2) = false := by kernel_rfl
theorem k2_x : kindE (asgX k2) = .bin (biL (asgX k2)) .FloorDiv (biR (asgX k2)) := by kernel_rfl
theorem k2_l : kindE (biL (asgX k2)) = .sub (suO (biL (asgX k2))) (suI (biL (asgX k2))) := by kernel_rfl
theorem k3_is : kindS k3 = .ifs (stT k3) (stB k3) [] := by kernel_rfl
theorem k3_t : stT k3 = .Compare (cmL (stT k3)) [.Eq] [cmC 0 (stT k3)] (posE (stT k3)) := by kernel_rfl
theorem k3_l : kindE (cmL (stT k3)) = .sub (suO (cmL (stT k3))) (suI (cmL (stT k3))) := by kernel_rfl
noncomputable def popS : Stmt := (stB k3).getD 0 default
noncomputable def popX : Expr := expX popS
theorem k3_b : stB k3 = [popS] := by kernel_rfl
theorem pop_is : kindS popS = .expr popX := by kernel_rfl
theorem pop_x : kindE popX = .meth (atO (caF popX)) "pop" (posE (caF popX)) [argAt 0 popX] (posE popX) := by kernel_rfl
theorem k4_is : kindS k4 = .ret (retX k4) := by kernel_rfl
section
variable {p : Par} {n d : Nat} {sc : Scope} {st s1 s2 : St}
theorem ev_cmp1 {l x : Expr} {op : CmpOp} {q : Pos} {a b : V} {r : Bool} (hm : lastMarks [op] [x] = false) (h1 : ev p n d sc (.e l) st = some (.v a, s1)) (h2 : ev p n d sc (.e x) s1 = some (.v b, s2)) (c : cmpV p s2.h op a b = some r) : ev p (n + 1) d sc (.t (.Compare l [op] [x] q)) st = some (.b r, s2) := by
  show (match lastMarks [op] [x] with
    | false => (match asV (ev p n d sc (.e l) st) with
      | some (a, st) => outB (chain p (ev p n d) sc a [op] [x] st)
      | Option.none => Option.none)
    | true => Option.none) = _
  rw [hm]
  simp only [h1, asV, chain, h2, c]
  rfl
theorem evS_if {x : Stmt} {t : Expr} {b o : List Stmt} {c : Bool} {f : Fl} (hk : kindS x = .ifs t b o) (h1 : ev p n d sc (.t t) st = some (.b c, s1)) (h2 : ev p n d sc (.s (cond c b o)) s1 = some (.f f, s2)) : evS p (ev p n d) sc st x = some (f, s2) := by
  unfold evS
  rw [hk]; simp only [h1, asB]
  (first | exact Mine.ns c | exact Mine.ft c | exact Mine.sn c | exact Mine.tf c | cases c)
  · show asF (ev p n d sc (.s o) s1) = _
    have h2 : ev p n d sc (.s o) s1 = some (.f f, s2) := h2
    rw [h2]; rfl
  · show asF (ev p n d sc (.s b) s1) = _
    have h2 : ev p n d sc (.s b) s1 = some (.f f, s2) := h2
    rw [h2]; rfl
theorem ev_name {x : Expr} {y : Str} {v : V} (hk : kindE x = .name y) (h : nameV p sc st y = some v) : ev p (n + 1) d sc (.e x) st = some (.v v, st) := ev_nmG hk h
theorem ev_const {x : Expr} {v : V} {c : Const} (hk : kindE x = .const c) (hc : constV c = some v) : ev p (n + 1) d sc (.e x) st = some (.v v, st) := by
  show evE p (ev p n d) sc st x = _
  unfold evE
  rw [hk]; simp only [hc]
end
section
variable {n d m : Nat} {x : Int} {r l : List V} {rest : List (Str × V)}
noncomputable abbrev plL (m : Nat) (rest : List (Str × V)) : List (Str × V) := ("pool", .loc 0) :: ("many", .int (.ofNat m)) :: rest
theorem k_pool {e : Expr} {h : List MO} (he : kindE e = .name "pool") : ev par0 (n + 1) d scK (.e e) ⟨plL m rest, h⟩ = some (.v (.loc 0), ⟨plL m rest, h⟩) := ev_name he (by kernel_rfl)
theorem k_many {e : Expr} {h : List MO} (he : kindE e = .name "many") : ev par0 (n + 1) d scK (.e e) ⟨plL m rest, h⟩ = some (.v (.int (.ofNat m)), ⟨plL m rest, h⟩) := ev_name he (by kernel_rfl)
theorem k_lenP (hl : l.length < 10000) : ev par0 (n + 2) (d + 1) scK (.e (cmL (stT k0))) ⟨plL m rest, [.lst l]⟩ = some (.v (.int (.ofNat l.length)), ⟨plL m rest, [.lst l]⟩) := by
  refine ev_call (fv := .bi 0) (s2 := ⟨plL m rest, [.lst l]⟩) (vs := [.loc 0]) k0_l (by kernel_rfl) (ev_name (y := "len") (by kernel_rfl) (by kernel_rfl)) (by kernel_rfl) (evs_one (k_pool (by kernel_rfl))) ?_
  show outV (match Nat.blt l.length 10000 with
    | true => some (V.int (.ofNat l.length), (⟨plL m rest, [.lst l]⟩ : St))
    | false => none) = _
  rw [Nat.blt_eq.mpr hl]; rfl
theorem k0_test (hl : l.length < 10000) : ev par0 (n + 3) (d + 1) scK (.t (stT k0)) ⟨plL m rest, [.lst l]⟩ = some (.b (Nat.beq l.length 0), ⟨plL m rest, [.lst l]⟩) := by
  rw [k0_t]
  exact ev_cmp1 (by kernel_rfl) (k_lenP hl) (ev_const (c := .int 0) (by kernel_rfl) rfl) rfl
theorem k_at0 {e : Expr} (he : kindE e = .sub (suO e) (suI e)) (h1 : kindE (suO e) = .name "pool") (h2 : kindE (suI e) = .const (.int 0)) : ev par0 (n + 2) d scK (.e e) ⟨plL m rest, [.lst (.int x :: r)]⟩ = some (.v (.int x), ⟨plL m rest, [.lst (.int x :: r)]⟩) :=
  ev_sub he (k_pool h1) (ev_const h2 rfl) rfl
/-- no digit left -/
theorem tk_nil : ev par0 (n + 5) (d + 1) scK (.s tkB) ⟨plL m [], [.lst []]⟩ = some (.f (.ret (.int 0)), ⟨plL m [], [.lst []]⟩) := by
  rw [tk_is]
  refine ev_ret (evS_if k0_is (k0_test (n := n + 1) (l := []) (by decide)) ?_)
  kernel_rfl
theorem s0_run (hl : (V.int x :: r).length < 10000) : evS par0 (ev par0 (n + 3) (d + 1)) scK ⟨plL m [], [.lst (.int x :: r)]⟩ k0 = some (.nx, ⟨plL m [], [.lst (.int x :: r)]⟩) :=
  evS_if k0_is (k0_test (n := n) hl) rfl
theorem s1_run (hm : divisor (.int (.ofNat m)) = some m) : evS par0 (ev par0 (n + 3) d) scK ⟨plL m [], [.lst (.int x :: r)]⟩ k1 = some (.nx, ⟨plL m [("digit", .int (x.fmod (.ofNat m)))], [.lst (.int x :: r)]⟩) := by
  refine evS_asg (v := .int (x.fmod (.ofNat m))) k1_is (by kernel_rfl) (ev_bin k1_x (k_at0 k1_l (by kernel_rfl) (by kernel_rfl)) (k_many (n := n + 1) (by kernel_rfl)) ?_) (by kernel_rfl)
  show ((divisor (.int (.ofNat m))).bind fun n => some (V.int (x.fmod (.ofNat n)))) = _
  rw [hm]; rfl
theorem x2_run (hm : divisor (.int (.ofNat m)) = some m) : ev par0 (n + 3) d scK (.e (asgX k2)) ⟨plL m rest, [.lst (.int x :: r)]⟩ = some (.v (.int (x.fdiv (.ofNat m))), ⟨plL m rest, [.lst (.int x :: r)]⟩) := by
  refine ev_bin k2_x (k_at0 k2_l (by kernel_rfl) (by kernel_rfl)) (k_many (n := n + 1) (by kernel_rfl)) ?_
  show ((divisor (.int (.ofNat m))).bind fun n => some (V.int (x.fdiv (.ofNat n)))) = _
  rw [hm]; rfl
theorem k3_test : ev par0 (n + 3) d scK (.t (stT k3)) ⟨plL m rest, [.lst (.int x :: r)]⟩ = some (.b (ieq x 0), ⟨plL m rest, [.lst (.int x :: r)]⟩) := by
  rw [k3_t]
  exact ev_cmp1 (by kernel_rfl) (k_at0 k3_l (by kernel_rfl) (by kernel_rfl)) (ev_const (c := .int 0) (by kernel_rfl) rfl) rfl
theorem pop_run (hl : (V.int x :: r).length < 10000) : ev par0 (n + 4) (d + 1) scK (.s (stB k3)) ⟨plL m rest, [.lst (.int x :: r)]⟩ = some (.f .nx, ⟨plL m rest, [.lst r]⟩) := by
  rw [k3_b]
  refine ev_seq (s1 := ⟨plL m rest, [.lst r]⟩) (evS_expr (v := .int x) pop_is ?_) rfl
  refine ev_meth (ov := .loc 0) (f := .bi 14) (s2 := ⟨plL m rest, [.lst (.int x :: r)]⟩) (vs := [.int 0]) pop_x (by kernel_rfl) (k_pool (n := n + 1) (by kernel_rfl)) (by kernel_rfl) rfl (evs_one (ev_const (n := n + 1) (c := .int 0) (by kernel_rfl) rfl)) ?_
  show outV (match (V.int x :: r), Nat.blt (V.int x :: r).length 10000 with
      | y :: q, true => some (y, (⟨plL m rest, setAt [.lst (.int x :: r)] 0 (.lst q)⟩ : St))
      | _, _ => Option.none) = _
  rw [Nat.blt_eq.mpr hl]; rfl
theorem s3_run (hl : (V.int x :: r).length < 10000) : evS par0 (ev par0 (n + 4) (d + 1)) scK ⟨plL m rest, [.lst (.int x :: r)]⟩ k3 = some (.nx, ⟨plL m rest, [.lst (match ieq x 0 with | true => r | false => .int x :: r)]⟩) := by
  refine evS_if k3_is (k3_test (n := n + 1)) ?_
  cases ieq x 0 with
  | true => exact pop_run hl
  | false => rfl
theorem s4_run {y : V} {h : List MO} : evS par0 (ev par0 (n + 1) d) scK ⟨plL m [("digit", y)], h⟩ k4 = some (.ret y, ⟨plL m [("digit", y)], h⟩) :=
  evS_ret k4_is (ev_name (y := "digit") (by kernel_rfl) (by kernel_rfl))
end
end Mine

end
section -- U21
open PySem PySem.W PyProof.Rows
set_option maxHeartbeats 0
namespace Mine
/-! ## a list of the mini heap is changed -/
section
variable {Z : ZP} {R : Rc} {env : Env} {h₀ : Heap} {L : Addr} {fr own : Led} {st : St} {ρ : List Addr} {pu : Led}
theorem lst_upd {h : Heap} {k : Nat} {l : List V} {x : Value} (I : Inv R Z env h₀ L fr own st ρ pu h) (hn : st.h[k]? = some (.lst l)) (hx : VR R ρ pu (.loc k) x) :
    ∃ ad vs n, x = .ref ad ∧ h.get? ad = some (PySem.W.listOf (List.toArray vs) n) ∧ VRs R ρ pu l vs ∧
      ∀ h' vs' n' l', Heap.SameBut ad h h' → h'.get? ad = some (PySem.W.listOf (List.toArray vs') n') → VRs R ρ pu l' vs' → Inv R Z env h₀ L fr own ⟨st.l, st.h.set k (.lst l')⟩ ρ pu h' := by
  obtain ⟨m, mm, tb, chs, W⟩ := I
  obtain ⟨ad, c, e1, e2, e3, e4⟩ := W.ms.at hn
  obtain ⟨_, rfl, hr⟩ := hx.loc_inv; clear hx
  rw [e1] at hr
  (first | exact Mine.ns hr | exact Mine.ft hr | exact Mine.sn hr | exact Mine.tf hr | cases hr)
  obtain ⟨vs, n, rfl, hvs⟩ := e3.lst_inv; clear e3
  obtain ⟨pre, post, p1, p2⟩ := flat_set_all e2
  have hm : (ad, PySem.W.listOf vs.toArray n) ∈ LED fr own tb chs pu :=
    List.mem_append_right _ (List.mem_append_right _ (List.mem_append_right _ (List.mem_append_left _ (List.mem_flatten.mpr ⟨_, List.mem_of_getElem? e2, List.mem_singleton.mpr rfl⟩))))
  refine ⟨ad, vs, n, rfl, (W.N _ hm).1, hvs, fun h' vs' n' l' hs ho2 hv' => ?_⟩
  have eL : LED fr own tb chs pu = (fr ++ (own ++ (tb ++ pre))) ++ (ad, PySem.W.listOf vs.toArray n) :: (post ++ pu) := by
    unfold LED; rw [p1]; simp
  have eL' : LED fr own tb (chs.set k [(ad, PySem.W.listOf vs'.toArray n')]) pu = (fr ++ (own ++ (tb ++ pre))) ++ (ad, PySem.W.listOf vs'.toArray n') :: (post ++ pu) := by
    unfold LED; rw [p2]; simp
  have N0 := W.N
  have nd0 := W.nd
  rw [eL] at N0 nd0
  obtain ⟨F', N', nd'⟩ := led_set W.F N0 nd0 hs ho2
  rw [← eL'] at N'
  exact ⟨m, mm, tb, _, W.set (a := ad) hn e2 (e4 (.lst l') [(ad, PySem.W.listOf vs'.toArray n')] (.lst hv')) rfl F' N'⟩
end
/-! ## the pool, as a list -/
noncomputable def intsV (l : List Int) : List V := l.map .int
section
variable {B : Base} {τ : Nat → V} {Z : ZP} {env : Env} {h₀ : Heap} {L : Addr} {fr own : Led} {ρ : List Addr} {pu : Led}
theorem ints_vr {R : Rc} : ∀ {l : List Int} {vs : List Value}, VRs R ρ pu (intsV l) vs → IntsAre vs l
  | [], vs, h => by (first | exact Mine.ns h | exact Mine.ft h | exact Mine.sn h | exact Mine.tf h | cases h); exact .nil
  | i :: l, vs, h => by
    cases h with
    | cons h1 h2 => obtain ⟨_, rfl⟩ := h1.int_inv; clear h1; exact .cons _ _ (ints_vr h2)
theorem pool_out {l : List (Str × V)} {h : List MO} {hp : Heap} {p j : Nat} (I : Inv (rcB B τ) Z env h₀ L fr own ⟨l, h⟩ ρ pu hp) (e : h[p]? = some (.abs 0 [.int (.ofNat j)])) : Inv (rcB B τ) Z env h₀ L fr own ⟨l, h.set p (.lst (intsV (B.pool j)))⟩ ρ pu hp := by
  obtain ⟨m, mm, tb, chs, W⟩ := I
  obtain ⟨ad, c, e1, e2, e3, e4⟩ := W.ms.at e
  have ht := e3.abs_inv
  have ht : (0 : Nat) = 0 ∧ ∃ j' : Nat, [V.int (.ofNat j)] = [.int j'] ∧ ∃ vs : List Value, ∃ n : Nat, c = [(ad, listOf vs.toArray n)] ∧ IntsAre vs (B.pool j') := ht
  obtain ⟨_, j', ej, vs, n, ec, hi⟩ := ht
  (first | exact Mine.ns ej | exact Mine.ft ej | exact Mine.sn ej | exact Mine.tf ej | cases ej)
  subst ec
  have := e4 (.lst (intsV (B.pool j))) [(ad, listOf vs.toArray n)] (.lst (ints_VRs hi))
  have hset : chs.set p [(ad, listOf vs.toArray n)] = chs := by
    refine List.ext_getElem? fun i => ?_
    by_cases hi : i = p
    · subst hi
      rw [List.getElem?_set_self (List.getElem?_eq_some_iff.mp e2).1, e2]
    · rw [List.getElem?_set_ne (Ne.symm hi)]
  rw [hset] at this
  exact ⟨m, mm, tb, chs, W.F, W.z, W.N, W.nd, W.ns, W.nm, this, W.tb⟩
theorem pool_in {l : List (Str × V)} {h : List MO} {hp : Heap} {p j : Nat} (I : Inv (rcB B τ) Z env h₀ L fr own ⟨l, h⟩ ρ pu hp) (e : h[p]? = some (.lst (intsV (B.pool j)))) : Inv (rcB B τ) Z env h₀ L fr own ⟨l, h.set p (.abs 0 [.int (.ofNat j)])⟩ ρ pu hp := by
  obtain ⟨m, mm, tb, chs, W⟩ := I
  obtain ⟨ad, c, e1, e2, e3, e4⟩ := W.ms.at e
  obtain ⟨vs, n, rfl, hv⟩ := e3.lst_inv; clear e3
  have := e4 (.abs 0 [.int (.ofNat j)]) [(ad, listOf vs.toArray n)] (.abs (show thP B.pool 0 _ ad _ ρ pu from ⟨rfl, j, rfl, vs, n, rfl, ints_vr hv⟩))
  have hset : chs.set p [(ad, listOf vs.toArray n)] = chs := by
    refine List.ext_getElem? fun i => ?_
    by_cases hi : i = p
    · subst hi
      rw [List.getElem?_set_self (List.getElem?_eq_some_iff.mp e2).1, e2]
    · rw [List.getElem?_set_ne (Ne.symm hi)]
  rw [hset] at this
  exact ⟨m, mm, tb, chs, W.F, W.z, W.N, W.nd, W.ns, W.nm, this, W.tb⟩
/-! ## the second statement -/
theorem s2_hand (F : Facts B.K) {d m : Nat} {x : Int} {r : List V} {rest : List (Str × V)} (hl : (V.int x :: r).length < 10000) (hm : divisor (.int (.ofNat m)) = some m) :
    ExS (glb B tau0) d scK k2 ⟨plL m rest, [.lst (.int x :: r)]⟩ .nx ⟨plL m rest, [.lst (.int (x.fdiv (.ofNat m)) :: r)]⟩ := by
  intro A fenv h₀ L Fm fr own ρ pu s Q FF I hQ
  have H := right0 (B := B) F (p := par0) ⟨rfl, rfl, rfl, rfl, rfl, rfl⟩ rfl rfl rfl 3 d
  rw [k2_is]
  refine wpAny_Assign_Subscript (H.e _ _ _ _ _ (x2_run (n := 0) (d := d) (x := x) (r := r) (rest := rest) hm) A fenv fenv h₀ L Fm fr own ρ pu s _ I ?_) (swapsWith_plain k2_c)
  intro v ρ1 pu1 s1 p1 q1 hv I1 sm1
  refine H.e _ _ _ _ _ (k_pool (n := 2) (m := m) (rest := rest) (by kernel_rfl)) A fenv fenv h₀ L Fm fr own ρ1 pu1 s1 _ I1 ?_
  intro o ρ2 pu2 s2 p2 q2 ho I2 sm2
  refine H.e _ _ _ _ _ (ev_const (n := 2) (c := .int 0) (by kernel_rfl) rfl) A fenv fenv h₀ L Fm fr own ρ2 pu2 s2 _ I2 ?_
  intro i ρ3 pu3 s3 p3 q3 hi I3 sm3
  obtain ⟨ad, vs, n, rfl, g, hvs, upd⟩ := lst_upd I3 (k := 0) rfl (ho.mono p3 q3)
  obtain ⟨t, rfl⟩ := hi.int_inv; clear hi
  have hlen := hvs.length
  obtain ⟨v0, vr, rfl, h1, h2⟩ := hvs.cons_inv; clear hvs
  have hg : s3.heap.get? ad = some (PySem.W.listOf (List.toArray (v0 :: vr)) n) := g
  refine ki_setAt hg (by decide) (by decide) (by simp) ?_
  have q := PySem.IsL.update hg (fun a => a.setIfInBounds (0 : Int).toNat v)
  have e1 : ((v0 :: vr).toArray.setIfInBounds (0 : Int).toNat v) = (v :: vr).toArray := by simp
  rw [e1] at q
  have I4 := upd _ (v :: vr) _ (.int (x.fdiv (.ofNat m)) :: r) (Heap.SameBut.update ..) q (.cons (hv.mono (p2.trans p3) (q2.trans q3)) h2)
  exact hQ ρ3 pu3 own _ ((p1.trans p2).trans p3) ((q1.trans q2).trans q3) (OwnR.refl _) I4 (((sm1.trans sm2).trans sm3).trans (Same.toks s3 _ s3.toks))
/-! ## the function -/
noncomputable def stepP : List Int → Nat → List Int × Int
  | [], _ => ([], 0)
  | x :: r, m => ((match ieq (x.fdiv (.ofNat m)) 0 with | true => r | false => x.fdiv (.ofNat m) :: r), x.fmod (.ofNat m))
theorem tk_small (F : Facts B.K) {xs : List Int} {m : Nat} (hl : xs.length < 10000) (hm : divisor (.int (.ofNat m)) = some m) :
    CallsTo (glb B tau0) 10 (.ref 630) [.loc 0, .int (.ofNat m)] none ⟨[], [.lst (intsV xs)]⟩ (.int (stepP xs m).2) [.lst (intsV (stepP xs m).1)] Tr := by
  have T : ParT par0 := ⟨rfl, rfl, rfl, rfl, rfl, rfl⟩
  have K : FnOk (glb B tau0) 630 tkF := (code_ok (G := glb B tau0) T F rfl).ft 630 tkF rfl
  have hb : bindA tkF [.loc 0, .int (.ofNat m)] = some (plL m []) := by kernel_rfl
  have P := prims (B := B) (τ := tau0) F T rfl tau0_ok (fx_no rfl) (str_no rfl) (sg_no rfl)
  have H := fun n => right0 (B := B) F (p := par0) T rfl rfl rfl n 9
  cases xs with
  | nil => exact def_calls K hb (ExSs.of (H 5).s (tk_nil (n := 0) (d := 8))) []
  | cons x r =>
    have hl1 : (V.int x :: intsV r).length < 10000 := by
      unfold intsV
      simpa using hl
    have X : ExSs (glb B tau0) 9 tkF.sc tkF.body ⟨plL m [], [.lst (intsV (x :: r))]⟩ (.ret (.int (x.fmod (.ofNat m)))) ⟨plL m [("digit", .int (x.fmod (.ofNat m)))], [.lst (match ieq (x.fdiv (.ofNat m)) 0 with | true => intsV r | false => .int (x.fdiv (.ofNat m)) :: intsV r)]⟩ := by
      show ExSs _ _ _ tkB _ _ _
      rw [tk_is]
      refine ExSs.cons (ExS.of P (H 3) (s0_run (n := 0) (d := 8) hl1)) ?_
      refine ExSs.cons (ExS.of P (H 3) (s1_run (n := 0) hm)) ?_
      refine ExSs.cons (s2_hand F hl1 hm) ?_
      refine ExSs.cons (ExS.of P (H 4) (s3_run (n := 0) (d := 8) hl1)) ?_
      exact ExSs.ret (ExS.of P (H 1) (s4_run (n := 0)))
    have C := def_calls K hb X []
    have e : intsV (stepP (x :: r) m).1 = (match ieq (x.fdiv (.ofNat m)) 0 with | true => intsV r | false => .int (x.fdiv (.ofNat m)) :: intsV r) := by
      show intsV (match ieq (x.fdiv (.ofNat m)) 0 with | true => r | false => x.fdiv (.ofNat m) :: r) = _
      cases ieq (x.fdiv (.ofNat m)) 0 <;> rfl
    rw [e]
    exact C
theorem intsV_cl : ∀ (l : List Int), clVs (intsV l) = true
  | [] => rfl
  | i :: l => intsV_cl l
/-- the pool's states and digits -/
structure PoolOk (B : Base) (mods dig : Nat → Nat) (top : Nat) : Prop where
  st : ∀ j, j < top → (stepP (B.pool j) (mods j)).1 = B.pool (j + 1) ∧ (stepP (B.pool j) (mods j)).2 = .ofNat (dig j)
  len : ∀ j, j < top → (B.pool j).length < 10000
  m : ∀ j, j < top → divisor (.int (.ofNat (mods j))) = some (mods j)
theorem take_ok (F : Facts B.K) {mods dig : Nat → Nat} {top : Nat} (Po : PoolOk B mods dig top) : TakeOk B mods dig top := by
  intro τ cτ h p j v hj hp hv l A sc fenv env h₀ L Fm Z fr own ρ pu s vals kws Q I _ hx hk hQ
  obtain ⟨e1, e2⟩ := Po.st j hj
  have C := tk_small (B := B) F (Po.len j hj) (Po.m j hj)
  rw [e1, e2] at C
  have hpl : p < h.length := (List.getElem?_eq_some_iff.mp hp).1
  have I1 := pool_out I hp
  have eg : (h.set p (.lst (intsV (B.pool j)))).getD p .dead = .lst (intsV (B.pool j)) := by
    rw [List.getD_eq_getElem?_getD, List.getElem?_set_self hpl]; rfl
  have C2 := lift (B := B) (τ := τ) (τ' := tau0) (ps := [p]) (h := h.set p (.lst (intsV (B.pool j)))) (hs' := [.lst (intsV (B.pool (j + 1)))]) (args := [.loc p, .int (.ofNat (mods j))]) (v := .int (.ofNat (dig j))) cτ tau0_cl C (by simp) (by intro i hi; simp at hi; subst hi; simpa using hpl)
    (by
      show [MO.lst (trVs _ _ (intsV _))] = [trM .loc τ (List.getD _ _ _)]
      rw [eg]
      show _ = [MO.lst (trVs .loc τ (intsV _))]
      rw [trVs_cl _ (intsV_cl _), trVs_cl _ (intsV_cl _)])
    (by
      show (okVs _ _ (intsV _) && true) = true
      rw [okVs_cl _ (intsV_cl _)]; rfl) rfl rfl rfl rfl
    (by
      show [MO.lst (trVs _ _ (intsV _))] = [MO.lst (trVs .loc τ (intsV _))]
      rw [trVs_cl _ (intsV_cl _), trVs_cl _ (intsV_cl _)])
    (by
      show (okVs _ _ (intsV _) && true) = true
      rw [okVs_cl _ (intsV_cl _)]; rfl) rfl l
  refine C2 A sc fenv env h₀ L Fm Z fr own ρ pu s vals kws Q I1 trivial hx hk ?_
  intro y ρ' pu' s' p1 q1 hy I2 sm
  have hh : putAt [p] [MO.lst (intsV (B.pool (j + 1)))] (h.set p (.lst (intsV (B.pool j)))) = h.set p (.lst (intsV (B.pool (j + 1)))) := by
    show (h.set p _).set p _ = _
    rw [List.set_set]
  rw [hh] at I2
  have I3 := pool_in I2 (p := p) (j := j + 1) (by rw [List.getElem?_set_self hpl])
  rw [List.set_set] at I3
  exact hQ y ρ' pu' s' p1 q1 (hv _ _ _ hy) I3 sm
end
end Mine

end
section -- U22
open PySem PySem.W PyProof.Rows
set_option maxHeartbeats 0
namespace Mine
/-! ## what the script says -/
noncomputable def modsF (n j : Nat) : Nat := if j = 0 then 2 else if j = 1 then 4 else if j = 2 + 4 * n then 7 else
  if (j - 2) % 4 = 0 then 3 else if (j - 2) % 4 = 1 then 9 else if (j - 2) % 4 = 2 then 30 else 4
noncomputable def poolF (p0 : List Int) (n : Nat) : Nat → List Int
  | 0 => p0
  | j + 1 => (stepP (poolF p0 n j) (modsF n j)).1
noncomputable def digF (p0 : List Int) (n j : Nat) : Nat := (stepP (poolF p0 n j) (modsF n j)).2.toNat
noncomputable def nOf (p0 : List Int) : Nat := 1 + digF p0 0 1
noncomputable def datOf (p0 : List Int) : Dat :=
  ⟨(List.range (nOf p0)).map fun i => ⟨digF p0 (nOf p0) (2 + 4 * i), digF p0 (nOf p0) (2 + 4 * i + 1), digF p0 (nOf p0) (2 + 4 * i + 2), digF p0 (nOf p0) (2 + 4 * i + 3)⟩, digF p0 (nOf p0) (2 + 4 * nOf p0), digF p0 (nOf p0) 0⟩
theorem ite_P {P : Nat → Prop} {c : Prop} [Decidable c] {a b : Nat} (h : P a) (k : P b) : P (if c then a else b) := by by_cases e : c; rw [if_pos e]; exact h; rw [if_neg e]; exact k
theorem mods_P {P : Nat → Prop} (h2 : P 2) (h4 : P 4) (h7 : P 7) (h3 : P 3) (h9 : P 9) (h30 : P 30) (n j : Nat) : P (modsF n j) :=
  ite_P h2 (ite_P h4 (ite_P h7 (ite_P h3 (ite_P h9 (ite_P h30 h4)))))
theorem mods_pos (n j : Nat) : 0 < modsF n j := mods_P (P := fun m => 0 < m) (by decide) (by decide) (by decide) (by decide) (by decide) (by decide) n j
theorem mods_div (n j : Nat) : divisor (.int (.ofNat (modsF n j))) = some (modsF n j) := mods_P (P := fun m => divisor (.int (.ofNat m)) = some m) rfl rfl rfl rfl rfl rfl n j
theorem step_range (l : List Int) (m : Nat) (hm : 0 < m) : 0 ≤ (stepP l m).2 ∧ (stepP l m).2 < (m : Int) := by
  cases l with
  | nil => exact ⟨Int.le_refl 0, by show (0 : Int) < m; lia⟩
  | cons x r =>
    have h : (0 : Int) < (m : Int) := by lia
    exact ⟨Int.fmod_nonneg_of_pos x h, Int.fmod_lt_of_pos x h⟩
theorem step_len (l : List Int) (m : Nat) : (stepP l m).1.length ≤ l.length := by
  cases l with
  | nil => exact Nat.le_refl _
  | cons x r =>
    show (match ieq (x.fdiv (.ofNat m)) 0 with | true => r | false => x.fdiv (.ofNat m) :: r).length ≤ _
    cases ieq (x.fdiv (.ofNat m)) 0 <;> simp
theorem pool_len (p0 : List Int) (n : Nat) : ∀ j, (poolF p0 n j).length ≤ p0.length
  | 0 => Nat.le_refl _
  | j + 1 => Nat.le_trans (step_len _ _) (pool_len p0 n j)
theorem dig_eq (p0 : List Int) (n j : Nat) : (stepP (poolF p0 n j) (modsF n j)).2 = .ofNat (digF p0 n j) :=
  (Int.toNat_of_nonneg (step_range _ _ (mods_pos n j)).1).symm
theorem dig_lt (p0 : List Int) (n j : Nat) : digF p0 n j < modsF n j := by
  have h := step_range (poolF p0 n j) (modsF n j) (mods_pos n j)
  unfold digF
  lia
theorem dig1 (p0 : List Int) (n : Nat) : digF p0 n 1 = digF p0 0 1 := rfl
theorem n_range (p0 : List Int) : 1 ≤ nOf p0 ∧ nOf p0 ≤ 4 := by
  have := dig_lt p0 0 1
  have e : modsF 0 1 = 4 := rfl
  unfold nOf
  lia
theorem mods_p {n i : Nat} (hi : i < n) : modsF n (2 + 4 * i) = 3 ∧ modsF n (2 + 4 * i + 1) = 9 ∧ modsF n (2 + 4 * i + 2) = 30 ∧ modsF n (2 + 4 * i + 3) = 4 := by
  unfold modsF
  refine ⟨?_, ?_, ?_, ?_⟩
  · rw [if_neg (by lia), if_neg (by lia), if_neg (by lia), if_pos (by lia)]
  · rw [if_neg (by lia), if_neg (by lia), if_neg (by lia), if_neg (by lia), if_pos (by lia)]
  · rw [if_neg (by lia), if_neg (by lia), if_neg (by lia), if_neg (by lia), if_neg (by lia), if_pos (by lia)]
  · rw [if_neg (by lia), if_neg (by lia), if_neg (by lia), if_neg (by lia), if_neg (by lia), if_neg (by lia)]
theorem ps_len (p0 : List Int) : (datOf p0).ps.length = nOf p0 := by
  unfold datOf
  simp
theorem dat_ok (p0 : List Int) : DatOk (datOf p0) := by
  obtain ⟨n1, n4⟩ := n_range p0
  refine ⟨fun p hp => ?_, by rw [ps_len]; exact n1, by rw [ps_len]; exact n4, ?_⟩
  · obtain ⟨i, hi, rfl⟩ := List.mem_map.mp hp
    have hi := List.mem_range.mp hi
    obtain ⟨a, b, c, _⟩ := mods_p hi
    have h1 := dig_lt p0 (nOf p0) (2 + 4 * i)
    have h2 := dig_lt p0 (nOf p0) (2 + 4 * i + 1)
    have h3 := dig_lt p0 (nOf p0) (2 + 4 * i + 2)
    rw [a] at h1; rw [b] at h2; rw [c] at h3
    exact ⟨h1, h2, h3⟩
  · exact dig_lt p0 (nOf p0) 0
theorem dig_ok (p0 : List Int) : DigOk (datOf p0) (modsF (nOf p0)) (digF p0 (nOf p0)) := by
  obtain ⟨n1, n4⟩ := n_range p0
  refine ⟨rfl, rfl, rfl, ?_, ?_, ?_, fun i p hp => ?_⟩
  · rw [ps_len, dig1]
    unfold nOf
    lia
  · rw [ps_len]
    unfold modsF
    rw [if_neg (by lia), if_neg (by lia), if_pos rfl]
  · rw [ps_len]; rfl
  · have hi : i < nOf p0 := by
      have := (List.getElem?_eq_some_iff.mp hp).1
      rw [ps_len] at this
      exact this
    unfold datOf at hp
    simp only [List.getElem?_map, List.getElem?_range hi, Option.map_some] at hp
    (first | exact Mine.ns hp | exact Mine.ft hp | exact Mine.sn hp | exact Mine.tf hp | cases hp)
    obtain ⟨a, b, c, e⟩ := mods_p hi
    exact ⟨⟨a, rfl⟩, ⟨b, rfl⟩, ⟨c, rfl⟩, ⟨e, rfl⟩⟩
theorem pool_ok {B : Base} {p0 : List Int} (hB : B.pool = poolF p0 (nOf p0)) (hl : p0.length ≤ 5000) (top : Nat) : PoolOk B (modsF (nOf p0)) (digF p0 (nOf p0)) top := by
  refine ⟨fun j _ => ?_, fun j _ => ?_, fun j _ => mods_div _ _⟩
  · rw [hB]
    exact ⟨rfl, dig_eq _ _ _⟩
  · rw [hB]
    have := pool_len p0 (nOf p0) j
    lia
/-- the rest of the law gives True -/
theorem law_rest {B : Base} {p0 : List Int} (F : Facts B.K) (hB : B.pool = poolF p0 (nOf p0)) (hl : p0.length ≤ 5000) : ∃ st', ExSs (glb B (tauW (datOf p0))) 95 lawF.sc lawB ⟨lawL, [.abs 0 [.int 0]]⟩ (.ret (.bool true)) st' := by
  have D := dat_ok p0
  obtain ⟨st', e⟩ := law_run D
  have S := law_snd (B := B) F D (dig_ok p0) (take_ok F (pool_ok hB hl _))
  exact ⟨st', ExSs.of S.s e⟩
end Mine

end
section -- U23
open PySem PySem.W PySem.Calls PyProof.Rows
set_option maxHeartbeats 0
namespace Mine
/-! ## the first statement of law -/
noncomputable def lcE (x : Expr) : Expr := kid 0 x
noncomputable def lcI (x : Expr) : Expr := kid 1 x
noncomputable def lcT (x : Expr) : Expr := kid 2 x
noncomputable def lcS : Expr → Scope
  | .ListComp _ _ s _ => s
  | _ => default
noncomputable def slU (x : Expr) : Expr := kid 0 x
noncomputable def l0S : Stmt := lawF.body.getD 0 default
noncomputable def l0X : Expr := asgX l0S
noncomputable def l0E : Expr := lcE l0X
noncomputable def l0I : Expr := lcI l0X
noncomputable def cscL : Scope := lcS l0X
theorem l0_is : l0S = .Assign [.Name "pool" (namP (asgT l0S))] (.ListComp l0E [⟨.Name "number" (namP (lcT l0X)), l0I, [], 0⟩] cscL (posE l0X)) (stP l0S) := by kernel_rfl
theorem l0I_is : l0I = .Subscript (.Name "script" (namP (suO l0I))) (.Slice none (some (.Constant (.int 24) 0 (posE (slU (suI l0I))))) none (posE (suI l0I))) (posE l0I) := by kernel_rfl
theorem l0E_is : l0E = .BinOp (.Call (.Name "abs" (namP (caF (biL l0E)))) [.Name "number" (namP (argAt 0 (biL l0E)))] [] (posE (biL l0E))) .Mod (.BinOp (.Constant (.int 10) 0 (posE (biL (biR l0E)))) .Pow (.Constant (.int 80) 0 (posE (biR (biR l0E)))) (posE (biR l0E))) (posE l0E) := by kernel_rfl
noncomputable def absMod (x : Int) : Int := (if x < 0 then -x else x).fmod (10 ^ 80)
theorem clos_cscL {env : Env} : clos env cscL.names [] = some [] := by kernel_rfl
theorem cscL_names : ∀ y ∈ cscL.names, y.2 ≠ .cell ∧ (y.2 = .local → cscL.names.lookup y.1 = some .local) := by
  have h : cscL.names = [((".0" : Str), NameKind.local), (("number" : Str), NameKind.local), (("abs" : Str), NameKind.globalImplicit)] := by kernel_rfl
  rw [h]
  intro y hy
  simp only [List.mem_cons, List.not_mem_nil, or_false] at hy
  rcases hy with rfl | rfl | rfl
  · exact ⟨by simp, fun _ => by decide⟩
  · exact ⟨by simp, fun _ => by decide⟩
  · exact ⟨by simp, fun h => by (first | exact Mine.ns h | exact Mine.ft h | exact Mine.sn h | exact Mine.tf h | cases h)⟩
section
variable {B : Base} {τ : Nat → V} {A : Around} {env : Env} {h₀ : Heap} {L : Addr} {s : Shared} {d : Nat}
theorem abs_val (F : Facts B.K) : ∃ v, (nsIn B.K mainGlobals "abs" = some (some v) ∨ (nsIn B.K mainGlobals "abs" = some none ∧ bootBuiltins "abs" = some v)) ∧ v = .builtin "abs" := by
  rcases gt_ok (R := rcB B tau0) F (x := "abs") (d := .bi 6) (by kernel_rfl) with ⟨v, h1, h2⟩ | ⟨h1, _, v, h2, h3⟩
  · refine ⟨v, .inl h1, ?_⟩
    have := h2 [] []
    (first | exact Mine.ns this | exact Mine.ft this | exact Mine.sn this | exact Mine.tf this | cases this); rfl
  · refine ⟨v, .inr ⟨h1, h2⟩, ?_⟩
    have := h3 [] []
    (first | exact Mine.ns this | exact Mine.ft this | exact Mine.sn this | exact Mine.tf this | cases this); rfl
/-- the element of the pool -/
theorem elt_ok (F : Facts B.K) (Fm : Frm (glb B τ) A lawF.sc env env h₀ L d) {C : Addr} {x : Int} {t : Tok} {s₂ : Shared} {m₂ : Str → Option Value} {E' : Value → Shared → Prop} (hns : s₂.heap.Ns (compEnvC cscL [] C env).locals m₂) (hm : m₂ "number" = some (.int x t)) (hk : ∀ b o, h₀.get? b = some o → s₂.heap.get? b = some o) :
    wpAny (model P B.w) A (eval l0E (compEnvC cscL [] C env)) (fun y s₃ => Carried y (.int (absMod x)) ∧ Keeps s₂ s₃) E' s₂ := by
  have Fc := comp_frm (C := C) Fm (csc := cscL) (l := []) (cl := []) (by kernel_rfl) clos_cscL
  have keep : ∀ tk, Keeps s₂ { s₂ with toks := tk } := fun tk => ⟨s₂.heap, tk, rfl, fun _ _ e => e⟩
  rw [l0E_is]
  refine wpAny_BinOp ?_
  rw [eval_Call_plain (by intro o a q; simp)]
  have hx : (compEnvC cscL [] C env).kindOf "abs" = some .globalImplicit := Fc.glo _ (by kernel_rfl)
  have hd : (("abs" : Str) == ("__debug__" : Str)) = false := by decide
  have hd2 : (("number" : Str) == ("__debug__" : Str)) = false := by decide
  have call : wpAny (model P B.w) A (callWith (posE (biL l0E)) (.builtin "abs") [] (backTo (posE (biL l0E)) (starEach [.Name "number" (namP (argAt 0 (biL l0E)))] (compEnvC cscL [] C env))) []) (fun v s' => ∃ u tk, v = .int (if x < 0 then -x else x) u ∧ s' = { s₂ with toks := tk }) E' s₂ := by
    have he : starEach [.Name "number" (namP (argAt 0 (biL l0E)))] (compEnvC cscL [] C env) = (false, eval (.Name "number" (namP (argAt 0 (biL l0E)))) (compEnvC cscL [] C env)) :: starEach [] (compEnvC cscL [] C env) := starEach_plain (by intro y q; simp)
    rw [he]
    refine callWith_of (P := fun _ => True) (by rfl) (fun h _ => ⟨.machine, .inr (.inl rfl), Looks.of_pure rfl⟩) (evalArgs_plain ?_)
    refine spliced_cons (wpAny_Name (wpAny_loadName_local Fc.ek (Fc.lcl _ (by kernel_rfl)) hns hm ?_) hd2)
    refine spliced_nil ⟨trivial, ?_⟩
    exact call_abs_int fun u tk => ⟨u, tk, rfl, rfl⟩
  have fin : ∀ (u : Tok) (tk : Nat), wpAny (model P B.w) A (eval (.BinOp (.Constant (.int 10) 0 (posE (biL (biR l0E)))) .Pow (.Constant (.int 80) 0 (posE (biR (biR l0E)))) (posE (biR l0E))) (compEnvC cscL [] C env)) (fun y s' => wpAny (model P B.w) A (binaryOp .Mod (.int (if x < 0 then -x else x) u) y) (fun y s₃ => Carried y (.int (absMod x)) ∧ Keeps s₂ s₃) E' s') E' { s₂ with toks := tk } := by
    intro u tk
    refine wpAny_BinOp ?_
    intro _ _ _
    intro _ _ _
    refine AutoIntOps.pow_4 (by decide) (by decide) (by decide) (by decide) (by decide +kernel) ?_
    have e : ((10 : Int) ^ (80 : Int).toNat) = 10 ^ 80 := rfl
    rw [e]
    exact AutoIntOps.mod_1 (by decide) ⟨.int _ _, s₂.heap, _, rfl, fun _ _ e => e⟩
  obtain ⟨v, hv, rfl⟩ := abs_val F
  refine wpAny_bind ?_
  have cont : wpAny (model P B.w) A (callWith (posE (biL l0E)) (.builtin "abs") [] (backTo (posE (biL l0E)) (starEach [.Name "number" (namP (argAt 0 (biL l0E)))] (compEnvC cscL [] C env))) []) (fun l s₁ => wpAny (model P B.w) A (eval (.BinOp (.Constant (.int 10) 0 (posE (biL (biR l0E)))) .Pow (.Constant (.int 80) 0 (posE (biR (biR l0E)))) (posE (biR l0E))) (compEnvC cscL [] C env)) (fun y s' => wpAny (model P B.w) A (binaryOp .Mod l y) (fun y s₃ => Carried y (.int (absMod x)) ∧ Keeps s₂ s₃) E' s') E' s₁) E' s₂ :=
    wpAny_mono call (fun v s' h => by obtain ⟨u, tk, rfl, rfl⟩ := h; exact fin u tk) fun _ _ e => e
  rcases hv with hn | ⟨hn, hb⟩
  · refine Name_function_global Fc.ek hx (loadGlobal_global (mg := B.mg) ?_ (mg_of Fm.kin Fm.top.g hn) cont) hd
    rw [Fc.eg]; exact Fm.top.g.keeps hk
  · refine Name_function_global Fc.ek hx (loadGlobal_builtin (mg := B.mg) (mb := B.mb) ?_ (mg_none_of Fm.kin Fm.top.g hn) ?_ ((Fm.top.builtins "abs" (by decide)).trans hb) cont) hd
    · rw [Fc.eg]; exact Fm.top.g.keeps hk
    · rw [Fc.eb]; exact Fm.top.b.keeps hk
theorem s0_law (F : Facts B.K) (Fm : Frm (glb B τ) A lawF.sc env env h₀ L d) (hloc : env.locals = L) (hpl : (env.scope.kind == .class || (env.scope.kind == .module && env.locals != env.globals)) = false) {m : Str → Option Value} {tb : Led} {as : Addr} {vs : List Value} {xs : List Int}
    (Fr' : Fr h₀ L s.heap m) (N : News h₀ L s.heap tb) (hs : m "script" = some (.ref as)) (hl : h₀.IsList as vs.toArray) (hi : IntsAre vs xs) (hlen : xs.length ≤ 63) {Q : Flow → Shared → Prop}
    (hQ : ∀ D (ys : List Value) n h' tk, Fr h₀ L h' (fun z => if z = "pool" then some (.ref D) else m z) → News h₀ L h' tb → h₀.get? D = none → h'.get? D = some (PySem.W.listOf ys.toArray n) → (∀ p ∈ tb, p.1 ≠ D) → D ≠ L → IntsAre ys ((xs.take 24).map absMod) → Q .next { s with heap := h', toks := tk }) :
    wpAny (model P B.w) A (exec l0S env) Q noE s := by
  have hb : env.blockKind = .function := by unfold Env.blockKind; rw [Fm.fk]; rfl
  have hy : env.kindOf "pool" = some .local := Fm.lcl _ (by kernel_rfl)
  rw [l0_is]
  have hsw : swapsWith (.ListComp l0E [⟨.Name "number" (namP (lcT l0X)), l0I, [], 0⟩] cscL (posE l0X)) (some (.Name "pool" (namP (asgT l0S)))) (stP l0S).line env = pure true := by
    have ha : (cscL.names.any fun (n, k) => n == "pool" && (k == NameKind.local || k == NameKind.cell)) = false := by kernel_rfl
    have hline : (namP (asgT l0S)).line = (posE l0X).line := by kernel_rfl
    unfold swapsWith
    simp only [hb, hy, pos_lc, hline]
    rw [ha, show ((posE l0X).line == (posE l0X).line) = true by simp]
    rfl
  refine Assign_ListComp_DCn (K := .int) (h₀ := h₀) (L := L) (m := m) (pz := fun _ => true) (d := fun x => .int (absMod x)) hsw hloc Fm.hand (clos_pure clos_cscL) (fun y hy => (cscL_names y hy).1) (by kernel_rfl) (fun y hy => (cscL_names y hy).2) (by kernel_rfl) hy hpl ?_ ?_
  · rw [l0I_is]
    refine wpAny_Subscript_list_slice ?_
    have hns : s.heap.Ns env.locals m := by rw [hloc]; exact Fr'.ns
    refine wpAny_Name (wpAny_loadName_local Fm.ek (Fm.lcl _ (by kernel_rfl)) hns hs ?_) (by decide)
    refine wpAny_evalPart_none (wpAny_evalPart_some ?_)
    intro _ _ _
    have hlen2 := hi.length
    have hz : vs.toArray.size ≤ sizeLine := by
      rw [List.size_toArray, sizeLine_eq]
      lia
    have hs1 : ∀ b o, s.heap.get? b = some o → ((s.heap.push { cls := .type "slice", data := .fields #[Value.none, .int 24 s.toks, .none] }).push { cls := .type "list", data := .seq (slicePick vs.toArray none (some 24) none) }).get? b = some o := fun b o e => Heap.get?_push_of_some _ (Heap.get?_push_of_some _ e)
    have hi2 := slice_ints_uptoW hi (y := 24) (by decide)
    refine ⟨as, vs.toArray, none, some 24, rfl, ?_, hz, .none, .int _ _, ?_⟩
    · obtain ⟨o, e, r⟩ := hl
      exact ⟨o, Fr'.keep _ _ e, r⟩
    · refine ⟨tb, s.heap.objs.size + 1, (slicePick vs.toArray none (some 24) none).toList, xs.take 24, rfl, ?_, hi2.areOf, ?_, Fr'.keeps hs1, N.grown hs1, ?_, ?_, ?_⟩
      · rw [Array.toArray_toList]
        refine ⟨{ cls := .type "list", data := .seq (slicePick vs.toArray none (some 24) none) }, ?_, rfl, 0, rfl⟩
        have e1 := Heap.get?_push_size (s.heap.push { cls := .type "slice", data := .fields #[Value.none, .int 24 s.toks, .none] }) (o := { cls := .type "list", data := .seq (slicePick vs.toArray none (some 24) none) }) rfl
        rw [Heap.size_push] at e1
        exact e1
      · rw [sizeLine_eq, List.length_take]
        lia
      · intro C a v s₂ m₂ E' _ _ _ _ _ _
        exact wpAny_pure ⟨rfl, s₂.heap, s₂.toks, rfl, fun _ _ e => e⟩
      · intro C a v s₂ m₂ E' _ _ hv _ hns2 hm2 hk2
        obtain ⟨t, rfl⟩ := hv
        exact elt_ok F Fm hns2 hm2 fun b o e => hk2 b o (hs1 b o (Fr'.keep b o e))
      · intro D ys h' tk F' N' hD _ hP hc
        obtain ⟨n, hg⟩ := hP.1
        refine hQ D ys n h' tk F' N' hD hg hP.2 (hP.ne_locals F') ?_
        have e : (xs.take 24).filter (fun _ => true) = xs.take 24 := by simp
        rw [e] at hc
        exact CarriedAll.intsOf (f := absMod) hc
  · intro x
    rw [l0I_is]; rfl
end
end Mine

end
section -- U24
open PySem PySem.W PySem.Calls PyProof.Rows
set_option maxHeartbeats 0
namespace Mine
noncomputable abbrev tabsL : List (Addr × Addr) := lamTab.map fun e => (e.1, e.2.1)
theorem grown_of {h₀ h : Heap} {L : Addr} {tb news : Led} (N : News h₀ L h news) (sub : ∀ p ∈ tb, p ∈ news) : ∀ {l : List (Addr × Addr × Str)} {pu : Led}, tbD l tb pu → GrownAll (l.map fun e => (e.1, e.2.1)) h
  | [], _, _ => trivial
  | e :: r, pu, T => by
    obtain ⟨ps, hm, _⟩ := T e (List.mem_cons_self ..)
    exact ⟨GrownAt.of N (sub _ hm), grown_of N sub fun x hx => T x (List.mem_cons_of_mem _ hx)⟩
theorem tbD_start : tbD lamTab (tabNews tabsL) [] := by
  intro e he
  refine ⟨#[], List.mem_map.mpr ⟨(e.1, e.2.1), List.mem_map.mpr ⟨e, he, rfl⟩, rfl⟩, trivial, fun pos cv h => ?_⟩
  (first | exact Mine.ns h | exact Mine.ft h | exact Mine.sn h | exact Mine.tf h | cases h)
theorem lawB_is : lawF.body = l0S :: lawB := by kernel_rfl
theorem law_sc : scOk lawF.sc = true := by decide +kernel
theorem law_lam : lamSc lawF.sc = false := by decide +kernel
theorem law_cells : cellsFrom 0 lawF.sc.names [] = [] := by kernel_rfl
theorem law_kinds : ∀ q ∈ lawF.sc.names, q.2 ≠ .cell := by
  have h : (lawF.sc.names.all fun q => q.2 != .cell) = true := by decide +kernel
  intro q hq
  simpa using List.all_eq_true.mp h q hq
section
variable {B : Base} {s : Shared} {as : Addr} {vs : List Value} {xs : List Int}
/-- law, called from outside -/
theorem law_call (F : Facts B.K) (no : noTabs B.K = true) (hT : TabsAt tabsL s.heap) (X : B.K.In s.heap) {p : Program} {loose : List Str} (T : Top p loose B.mean B.mg B.mb s.heap) (hloose : B.loose = loose ++ (recsOf p).map (·.name) ++ (litsOf p).map (·.1) ++ (clssOf p loose).map (·.name))
    (hB : B.pool = poolF ((xs.take 24).map absMod) (nOf ((xs.take 24).map absMod))) (hl : s.heap.IsList as vs.toArray) (hi : IntsAre vs xs) (hlen : xs.length ≤ 63)
    {a : Addr} {o : Obj} {pm cd doc dV kV : Value} {params : Arguments} (ho : s.heap.get? a = some o) (hd : o.data = .func { docDef "law" params lawF.body lawF.sc pm cd doc with defaults := dV, kwdefaults := kV })
    (hcd : s.heap.CodeRec cd "law") (hbind : BindsTo s { docDef "law" params lawF.body lawF.sc pm cd doc with defaults := dV, kwdefaults := kV } ⟨[.ref as], []⟩ [("script", .ref as)]) {RR : Result → Shared → Prop}
    (hR : ∀ s' m', Same s s' → Fr (ghostOf s.heap tabsL) s.heap.objs.size s'.heap m' → GrownAll tabsL s'.heap → RR (.ok (.ret (.bool true))) s') : codeAny (model P B.w) callerA (.call (.ref a) ⟨[.ref as], []⟩) RR s := by
  refine call_fullW (by decide) ho hd (Top.nolimit T) hcd hbind (by intro x hx; rw [List.mem_singleton.mp hx]; kernel_rfl) (fun h₁ F0 => ?_) (by kernel_rfl) (by kernel_rfl) (by kernel_rfl) law_kinds
  have F1 := ghost_fr hT F0
  have N1 : News (ghostOf s.heap tabsL) s.heap.objs.size h₁ (tabNews tabsL) := by
    have := ghost_news hT F0 News.nil
    rwa [List.nil_append] at this
  have X1 := ghost_K hT X no
  have T1 := ghost_top hT T
  rw [← hloose] at T1
  have B1 := ghost_below hT
  have hl1 : (ghostOf s.heap tabsL).IsList as vs.toArray := ghost_list hT hl
  generalize ghostOf s.heap tabsL = g at F1 N1 X1 T1 B1 hl1 hR
  generalize s.heap.objs.size = L at *
  have hdat := dat_ok ((xs.take 24).map absMod)
  obtain ⟨st', rest⟩ := law_rest (B := B) F hB (by simp; lia)
  generalize hτ : tauW (datOf ((xs.take 24).map absMod)) = τ at rest
  obtain ⟨hk, hc, hg, hlc, hn⟩ := scOk_iff law_sc
  have kindOf_eq : ∀ x, (envOf "law" lawF.sc L a cd).kindOf x = lawF.sc.names.lookup x := fun _ => rfl
  have noCell : ∀ x, lawF.sc.names.lookup x ≠ some .cell := fun x hx => law_kinds _ (lookup_memL hx) rfl
  have noFree : ∀ x, lawF.sc.names.lookup x ≠ some .free := fun x hx => (hn _ (lookup_memL hx)).2 rfl
  have Fm : Frm (glb B τ) (callerA.deeper (envOf "law" lawF.sc L a cd)) lawF.sc (envOf "law" lawF.sc L a cd) (envOf "law" lawF.sc L a cd) g L 95 :=
    { below := ⟨callerA, g, [], B1, rfl⟩, fl := rfl, fk := hk, kin := X1, top := T1, hand := rfl, depth := by show (callerA.depth + 1) + 2 * 95 + 10 ≤ 900; decide, units := by show (callerA.units + 3) + 8 * 95 + 200 ≤ 9900; decide, ek := hk, eg := rfl, eb := rfl,
      glo := fun _ h => h, lcl := fun _ h => h, clo := fun _ h => h, cls := fun x h => (h.elim (fun q => noCell x q) fun q => noFree x q).elim, dbg := fun x k h => (hn _ (lookup_memL h)).1, fe := fun h => by rw [law_lam] at h; cases h }
  have FF : FnF (envOf "law" lawF.sc L a cd) L lawF.sc [] := ⟨rfl, rfl, fun _ => rfl, rfl, by show 0 ≤ 1; lia, fun x h => (noCell x h).elim, fun q h => by (first | exact Mine.ns h | exact Mine.ft h | exact Mine.sn h | exact Mine.tf h | cases h)⟩
  have body : wpAny (model P B.w) (callerA.deeper (envOf "law" lawF.sc L a cd)) (execs lawF.body (envOf "law" lawF.sc L a cd)) (fun f s' => f = .ret (.bool true) ∧ Same s s' ∧ (∃ m', Fr g L s'.heap m') ∧ GrownAll tabsL s'.heap) noE { s with heap := h₁, toks := s.toks + ([(("script" : Str), Value.ref as)]).length } := by
    rw [lawB_is]
    refine wpAny_execs_cons (s0_law (s := { s with heap := h₁, toks := s.toks + ([(("script" : Str), Value.ref as)]).length }) F Fm rfl (by show (lawF.sc.kind == .class || (lawF.sc.kind == .module && _)) = false; rw [hk]; rfl) F1 N1 (by rfl) hl1 hi hlen ?_)
    intro D ys n h' tk F2 N2 hD hgD hne hDL hys
    have pm : List.Perm (LED [] [] (tabNews tabsL) [[(D, PySem.W.listOf ys.toArray n)]] []) ((D, PySem.W.listOf ys.toArray n) :: tabNews tabsL) := by
      show (tabNews tabsL ++ [(D, PySem.W.listOf ys.toArray n)]).Perm _
      exact List.perm_append_comm
    have I : Inv (rcB B τ) Z0 (envOf "law" lawF.sc L a cd) g L [] [] ⟨lawL, [.abs 0 [.int 0]]⟩ [D] [] h' := by
      refine ⟨_, _, tabNews tabsL, [[(D, PySem.W.listOf ys.toArray n)]], F2, trivial, fun q hq => ?_, ?_, .inl ⟨rfl, rfl⟩, ?_, ?_, tbD_start⟩
      · rcases List.mem_cons.mp (pm.mem_iff.mp hq) with rfl | hq
        · exact ⟨hgD, hDL, hD⟩
        · exact N2 q hq
      · rw [(pm.map (·.1)).nodup_iff, List.map_cons, List.nodup_cons]
        refine ⟨fun h => ?_, by decide⟩
        obtain ⟨q, hq, e⟩ := List.mem_map.mp h
        exact hne q hq e
      · intro x dv hx
        have hx : List.lookup x lawL = some dv := hx
        unfold lawL at hx
        rw [List.lookup_cons] at hx
        cases e1 : x == ("script" : Str) with
        | true =>
          rw [e1] at hx
          (first | exact Mine.ns hx | exact Mine.ft hx | exact Mine.sn hx | exact Mine.tf hx | cases hx)
          have := eq_of_beq e1
          subst this
          exact .inl ⟨by rw [kindOf_eq]; kernel_rfl, .ref as, by rfl, .any rfl⟩
        | false =>
          rw [e1] at hx
          simp only [] at hx
          rw [List.lookup_cons] at hx
          cases e2 : x == ("pool" : Str) with
          | true =>
            rw [e2] at hx
            (first | exact Mine.ns hx | exact Mine.ft hx | exact Mine.sn hx | exact Mine.tf hx | cases hx)
            have := eq_of_beq e2
            subst this
            exact .inl ⟨by rw [kindOf_eq]; kernel_rfl, .ref D, by rfl, .loc rfl⟩
          | false => rw [e2] at hx; (first | exact Mine.ns hx | exact Mine.ft hx | exact Mine.sn hx | exact Mine.tf hx | cases hx)
      · refine .cons (.abs (show thP B.pool 0 [.int 0] D [(D, PySem.W.listOf ys.toArray n)] [D] [] from ⟨rfl, 0, rfl, ys, n, rfl, ?_⟩)) .nil
        rw [hB]
        exact hys
    refine rest _ _ g L Fm [] [] [D] [] _ _ FF I ?_
    intro v ρ' pu' own' s' p1 q1 o1 vr J sm
    obtain rfl := vr.bool_inv; clear vr
    obtain ⟨m', mm, tb, chs, W⟩ := J
    have sm' : Same s s' := Same.trans ⟨h', tk, rfl⟩ sm
    refine ⟨rfl, sm', ⟨m', W.F⟩, grown_of W.N (fun p hp => List.mem_append_right _ (List.mem_append_right _ (List.mem_append_left _ hp))) W.tb⟩
  refine wpAny_mono body (fun f s' h => ?_) fun _ _ h => h.elim
  obtain ⟨rfl, sm, ⟨m', Fe⟩, gr⟩ := h
  exact hR s' m' sm Fe gr
end
end Mine

end
section -- HJ3a
open PySem PySem.W PySem.Calls PyProof.Rows
set_option maxHeartbeats 0
namespace Mine
theorem tabs_at {s₀ : Shared} {h : Heap} (FA : Facts (kpOf s₀.heap) ∧ lamTab.all (fun e => tabB s₀.heap e.2.1) = true) (k : ∀ b o, s₀.heap.get? b = some o → h.get? b = some o) : TabsAt tabsL h := by
  intro q hq
  obtain ⟨e, he, rfl⟩ := List.mem_map.mp hq
  have X : (kpOf s₀.heap).In h := fun a o e => k a o (kpOf_in s₀.heap a o e)
  exact ⟨hdB_ok (List.all_eq_true.mp FA.1.hd e he) X, k _ _ (tabB_ok (List.all_eq_true.mp FA.2 e he))⟩
noncomputable def fdA : Stmt → Arguments
  | .FunctionDef _ a _ _ _ _ _ _ _ _ => a
  | _ => default
noncomputable def lawA : Arguments := fdA (P.main.body.getD 69 default)
end Mine
set_option tactic.hygienic true in

end
open PySem PySem.W PySem.Calls PyProof.Rows
set_option maxHeartbeats 0
set_option tactic.hygienic true
theorem PySem.Challenge.cw_pb0275_01_holds : PySem.Challenge.rw_pb0275_01.Holds := by
  w_on
  refine holds_law Mine.said fun said => ?_
  refine holds_openX (q := Mine.lawQ) (loose := Mine.lawLoose) (Xt := fun _ => true) (XP := fun _ _ => True) (Yf := Mine.yOf) (Ya := fun _ => Mine.yGood Mine.resv) (N := 8800) Mine.left_law (fun _ _ => trivial) (fun _ _ _ _ _ => trivial) (by rfl) (by rfl) (by rfl) (fun _ _ => recFacts_nil (by rfl)) (by rfl) (by first | assumption | decide +kernel) (by decide +kernel) ⟨rfl, rfl, rfl, rfl, rfl, by decide +kernel⟩ ?hw ?hc
  case hw => w_witness2
  case hc =>
    intro w s₀ s₁ mg mb G hY a o pm cd doc dV kV ha hd hcd hdf hmg hg args vals as hL hpre hlay hrd hwell has
    have FA := Mine.facts_of hY
    have X : (Mine.kpOf s₀.heap).In s₁.heap := fun a o e => hL.keeps a o (Mine.kpOf_in s₀.heap a o e)
    have hT := Mine.tabs_at FA hL.keeps
    refine Ground.open G ?_
    intro T B D TE TW
    have he := Dflts.none hdf rfl
    subst he
    clear B D TE TW hdf hmg hL
    wrow_args hpre hlay hrd hwell has
    rename_i xs hs1 hs2 hs3 hs4 hs5 l1 l2 as vs l3 hl ra w1 r0 hi hr hc1 hc2
    refine enter_call ?_
    refine kn_post hT (fun _ _ => rfl) ?_
    have hlen : xs.length ≤ 63 := by lia
    refine Mine.law_call (B := ⟨Mine.kpOf s₀.heap, w, _, ExcName.means s₀.heap, mg, mb, Mine.poolF ((xs.take 24).map Mine.absMod) (Mine.nOf ((xs.take 24).map Mine.absMod))⟩) FA.1 (Mine.kpOf_no _) hT X T rfl rfl hl hi hlen (pm := pm) (doc := doc) (dV := .none) (kV := kV) (params := Mine.lawA) ha (hd.trans (by kernel_rfl)) hcd (BindsTo.of_eq (by kernel_rfl)) ?_
    intro s' m' sm Fe gr
    obtain ⟨h', tk, rfl⟩ := sm
    refine ⟨goodW_bool Fe hg (fun _ => rfl) ?_, gr⟩
    clear hs1 hs2 hs3 hs4 hs5 ra w1 r0 hi hr Fe gr
    wrow_post
