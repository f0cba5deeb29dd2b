import PyProof.Rows.All
import Wide.All
import OpenK.AllK
import Wide.FinOn
import KE.KStateDown
import KE.KExcSuper
import Lean
import HandS.ForMost
import HandS.ForExc
import HandS.Exc
import HandS.ExcField
import HandS.ExcCtx
import HandS.Hot
import HandS.HotCalls
import HandS.TryOnly
import HandS.Codes
import HandS.Defaults
import HandS.MakeKw
import HandS.MakeKwOnly
import HandS.Property
import HandS.IsInst
import HandS.OwnEq
import HandS.Star
import HandS.Style
import HandS.Zip
import HandS.Wide
import HandS.WideBits
import HandS.Flow
import HandS.Walk
import HandS.HeadEnd
import HandS.Head0
import HandS.Head1
import HandS.Head2
import HandS.HeadHook1
import HandS.HeadHook2
import PySem.Challenge.RW_veiledgates_k20_whole_leading_keeps_phas
import HandS.ExcInit
/-! K20 mathematics 1: balanced digits two ways; lanes packed and unpacked. -/
namespace K20
def geo (B : Int) : Nat → Int
  | 0 => 0
  | n + 1 => 1 + B * geo B n
def dig (B x : Int) : Int := if B / 2 ≤ x % B then x % B - B else x % B
def leftAt (B x : Int) : Nat → Int
  | 0 => x
  | n + 1 => (leftAt B x n - dig B (leftAt B x n)) / B
def digs (B x : Int) : Nat → List Int
  | 0 => []
  | n + 1 => digs B x n ++ [dig B (leftAt B x n)]
def restAt (B r : Int) : Nat → Int
  | 0 => r
  | n + 1 => restAt B r n / B
def spl (B h r : Int) : Nat → List Int
  | 0 => []
  | n + 1 => spl B h r n ++ [restAt B r n % B - h]

theorem digs_length (B x : Int) : ∀ n, (digs B x n).length = n
  | 0 => rfl
  | n + 1 => by simp [digs, digs_length B x n]
theorem spl_length (B h r : Int) : ∀ n, (spl B h r n).length = n
  | 0 => rfl
  | n + 1 => by simp [spl, spl_length B h r n]

theorem dig_eq {B h x : Int} (hB : B = 2 * h) (h0 : 0 < h) : dig B x = (x + h) % B - h := by
  have hd : B / 2 = h := by omega
  have r0 : 0 ≤ x % B := Int.emod_nonneg _ (by omega)
  have r1 : x % B < B := Int.emod_lt_of_pos _ (by omega)
  have e : (x + h) % B = (x % B + h) % B := by rw [Int.emod_add_emod]
  unfold dig
  rw [hd, e]
  split
  · have : (x % B + h) % B = x % B + h - B := by
      have e2 : (x % B + h) % B = (x % B + h - B) % B := by
        rw [Int.sub_emod_right]
      rw [e2, Int.emod_eq_of_lt (by omega) (by omega)]
    omega
  · rw [Int.emod_eq_of_lt (a := x % B + h) (by omega) (by omega)]; omega
theorem dig_lo {B h x : Int} (hB : B = 2 * h) (h0 : 0 < h) : -h ≤ dig B x := by
  rw [dig_eq hB h0]
  have r0 : 0 ≤ (x + h) % B := Int.emod_nonneg _ (by omega)
  omega
theorem dig_hi {B h x : Int} (hB : B = 2 * h) (h0 : 0 < h) : dig B x < h := by
  rw [dig_eq hB h0]
  have r1 : (x + h) % B < B := Int.emod_lt_of_pos _ (by omega)
  omega
theorem left_div {B h x : Int} (hB : B = 2 * h) (h0 : 0 < h) : (x - dig B x) / B = (x + h) / B := by
  rw [dig_eq hB h0]
  have e := Int.emod_add_mul_ediv (x + h) B
  have : x - ((x + h) % B - h) = B * ((x + h) / B) := by omega
  rw [this, Int.mul_ediv_cancel_left _ (by omega)]
/-- x is its digit and B times what is left -/
theorem dig_left {B h x : Int} (hB : B = 2 * h) (h0 : 0 < h) : x = dig B x + B * ((x - dig B x) / B) := by
  rw [left_div hB h0, dig_eq hB h0]
  have e := Int.emod_add_mul_ediv (x + h) B
  omega

theorem two_ways {B h x r : Int} (hB : B = 2 * h) (h0 : 0 < h) {l : Nat} {k : Int} (e : r = x + h * geo B l + B ^ l * k) :
    ∀ n, n ≤ l → (∃ k', restAt B r n = leftAt B x n + h * geo B (l - n) + B ^ (l - n) * k') ∧ digs B x n = spl B h r n
  | 0, _ => ⟨⟨k, e⟩, rfl⟩
  | n + 1, hn => by
    obtain ⟨⟨k', e1⟩, e2⟩ := two_ways hB h0 e n (by omega)
    obtain ⟨m, hm⟩ : ∃ m, l - n = m + 1 := ⟨l - n - 1, by omega⟩
    have hm' : l - (n + 1) = m := by omega
    rw [hm] at e1
    have e3 : restAt B r n = (leftAt B x n + h) + B * (h * geo B m + B ^ m * k') := by
      rw [e1]
      show leftAt B x n + h * (1 + B * geo B m) + B ^ (m + 1) * k' = _
      rw [Int.pow_succ, Int.mul_add, Int.mul_one, Int.mul_add]
      have a1 : h * (B * geo B m) = B * (h * geo B m) := by rw [← Int.mul_assoc, ← Int.mul_assoc, Int.mul_comm h B]
      have a2 : B ^ m * B * k' = B * (B ^ m * k') := by rw [Int.mul_comm (B ^ m) B, Int.mul_assoc]
      omega
    refine ⟨⟨k', ?_⟩, ?_⟩
    · show restAt B r n / B = (leftAt B x n - dig B (leftAt B x n)) / B + h * geo B (l - (n + 1)) + B ^ (l - (n + 1)) * k'
      rw [hm', left_div hB h0, e3, Int.add_mul_ediv_left _ _ (by omega)]
      omega
    · show digs B x n ++ [dig B (leftAt B x n)] = spl B h r n ++ [restAt B r n % B - h]
      rw [e2, e3, Int.add_mul_emod_self_left, dig_eq hB h0]

/-- the value of the digits -/
def val (B : Int) : List Int → Int
  | [] => 0
  | d :: ds => d + B * val B ds
theorem val_snoc (B d : Int) : ∀ ds : List Int, val B (ds ++ [d]) = val B ds + B ^ ds.length * d
  | [] => by simp [val]
  | x :: ds => by
    show x + B * val B (ds ++ [d]) = x + B * val B ds + B ^ (ds.length + 1) * d
    rw [val_snoc B d ds, Int.pow_succ, Int.mul_add]
    have a2 : B ^ ds.length * B * d = B * (B ^ ds.length * d) := by rw [Int.mul_comm (B ^ ds.length) B, Int.mul_assoc]
    omega
theorem digs_val {B h : Int} (hB : B = 2 * h) (h0 : 0 < h) (x : Int) : ∀ n, x = val B (digs B x n) + B ^ n * leftAt B x n
  | 0 => by simp [digs, val, leftAt]
  | n + 1 => by
    have ih := digs_val hB h0 x n
    show x = val B (digs B x n ++ [dig B (leftAt B x n)]) + B ^ (n + 1) * ((leftAt B x n - dig B (leftAt B x n)) / B)
    rw [val_snoc, digs_length, Int.pow_succ]
    have e := dig_left (x := leftAt B x n) hB h0
    have e2 : B ^ n * leftAt B x n = B ^ n * dig B (leftAt B x n) + B ^ n * B * ((leftAt B x n - dig B (leftAt B x n)) / B) := by
      conv => lhs; rw [e]
      rw [Int.mul_add, Int.mul_assoc]
    omega
theorem digs_bound {B h x : Int} (hB : B = 2 * h) (h0 : 0 < h) : ∀ n, ∀ d ∈ digs B x n, -h ≤ d ∧ d < h
  | 0, d, hd => by simp [digs] at hd
  | n + 1, d, hd => by
    rcases List.mem_append.mp (show d ∈ digs B x n ++ [dig B (leftAt B x n)] from hd) with q | q
    · exact digs_bound hB h0 n d q
    · rw [List.mem_singleton.mp q]
      exact ⟨dig_lo hB h0, dig_hi hB h0⟩
/-- the law's shift, summed from the low place -/
def shAt (B h : Int) : Nat → Int
  | 0 => 0
  | n + 1 => shAt B h n + h * B ^ n
theorem geo_snoc (B : Int) : ∀ n, geo B (n + 1) = geo B n + B ^ n
  | 0 => by simp [geo]
  | n + 1 => by
    show 1 + B * geo B (n + 1) = (1 + B * geo B n) + B ^ (n + 1)
    rw [geo_snoc B n, Int.pow_succ, Int.mul_add, Int.mul_comm (B ^ n) B]
    omega
theorem shAt_eq (B h : Int) : ∀ n, shAt B h n = h * geo B n
  | 0 => by simp [shAt, geo]
  | n + 1 => by
    show shAt B h n + h * B ^ n = h * geo B (n + 1)
    rw [shAt_eq B h n, geo_snoc, Int.mul_add]
/-- the two ways of the digits agree -/
theorem digs_spl {B h q x : Int} (hB : B = 2 * h) (h0 : 0 < h) {l : Nat} (hq : q = B ^ l) : spl B h ((x + shAt B h l) % q) l = digs B (x % q) l := by
  have e1 := Int.emod_add_mul_ediv x q
  have e2 := Int.emod_add_mul_ediv (x + shAt B h l) q
  refine (two_ways (l := l) (k := x / q - (x + shAt B h l) / q) hB h0 ?_ l (Nat.le_refl _)).2.symm
  rw [← shAt_eq, ← hq, Int.mul_sub]
  omega

/-! lanes -/
def packG (M : Int) : List Int → Int
  | [] => 0
  | x :: xs => x + M * packG M xs
def pkStep (M : Int) (t x : Int) : Int := t * M + x
theorem pack_fold (M : Int) (row : List Int) : row.reverse.foldl (pkStep M) 0 = packG M row := by
  induction row with
  | nil => rfl
  | cons x xs ih =>
    rw [List.reverse_cons, List.foldl_append, ih]
    show packG M xs * M + x = x + M * packG M xs
    rw [Int.mul_comm M]; omega
def tAt (M h t : Int) : Nat → Int
  | 0 => t
  | n + 1 => (tAt M h t n + h) / M
def unp (M h t : Int) : Nat → List Int
  | 0 => []
  | n + 1 => unp M h t n ++ [(tAt M h t n + h) % M - h]
theorem tAt_succ (M h t : Int) : ∀ n, tAt M h t (n + 1) = tAt M h ((t + h) / M) n
  | 0 => rfl
  | n + 1 => by
    show (tAt M h t (n + 1) + h) / M = (tAt M h ((t + h) / M) n + h) / M
    rw [tAt_succ M h t n]
theorem unp_cons (M h t : Int) : ∀ n, unp M h t (n + 1) = ((t + h) % M - h) :: unp M h ((t + h) / M) n
  | 0 => rfl
  | n + 1 => by
    show unp M h t (n + 1) ++ [(tAt M h t (n + 1) + h) % M - h] = _
    rw [unp_cons M h t n, tAt_succ]
    rfl
theorem unp_pack {M h : Int} (hM : M = 2 * h) (h0 : 0 < h) : ∀ row : List Int, (∀ x ∈ row, -h ≤ x ∧ x < h) → unp M h (packG M row) row.length = row
  | [], _ => rfl
  | x :: xs, hb => by
    obtain ⟨b1, b2⟩ := hb x List.mem_cons_self
    show unp M h (x + M * packG M xs) (xs.length + 1) = x :: xs
    have e : x + M * packG M xs + h = (x + h) + M * packG M xs := by omega
    rw [unp_cons, e, Int.add_mul_emod_self_left, Int.add_mul_ediv_left _ _ (by omega), Int.emod_eq_of_lt (by omega) (by omega), Int.ediv_eq_zero_of_lt (by omega) (by omega), Int.zero_add,
      unp_pack hM h0 xs fun y hy => hb y (List.mem_cons_of_mem _ hy)]
    congr 1
    omega
end K20

set_option Elab.async false
set_option linter.all false
set_option maxRecDepth 100000
set_option maxHeartbeats 4000000
/-! K20: the text by places, facts by addresses. -/
namespace K20
open PySem PySem.Spec PyProof.Rows L2
abbrev Fr := PySem.W.Frag
def top (i : Nat) : Stmt := PySem.Challenge.pw_veiledgates_k20_whole_leading_keeps_phas.main.body.getD i (.Pass ⟨0, 0, 0, 0⟩)
def meth (i j : Nat) : Stmt := (C8.clsBody (top i)).getD j (.Pass ⟨0, 0, 0, 0⟩)

/-- a def of no default, as it stands behind the top; clo: its closure -/
structure DfC (K : Fr) (x qual : Str) (st : Stmt) (clo : List (Str × Addr)) (a : Addr) (cda : Addr) : Prop where
  ex : ∃ (oc : Value) (od : Option Addr) (kV doc pm : Value) (an : Option Addr) (ct : Value) (osl : Array (Option Value)),
    K.lookup a = some ⟨oc, od, .func { PySem.W.fnOf x qual (C8.fnArgs st) (C8.fnBody st) (C8.fnScope st) .none kV doc pm an (.ref cda) ct with closure := clo }, osl⟩ ∧ PySem.W.codeIn K (.ref cda) qual = true
  kp : PySem.W.keepIn K (.ref a) = true
abbrev Df (K : Fr) (x qual : Str) (st : Stmt) (a cda : Addr) : Prop := DfC K x qual st [] a cda
structure Fd where
  a : Addr
  cd : Addr
  name : Str
  qual : Str
  st : Stmt
  clo : List (Str × Addr) := []
def Fd.val (d : Fd) : Option (Str × Str × Arguments × FuncBody × Scope × Addr × List (Str × Addr) × Addr) := some (d.name, d.qual, C8.fnArgs d.st, .stmts (C8.fnBody d.st), C8.fnScope d.st, mainGlobals, d.clo, builtinsNs)
def fnW (K : Fr) (a : Addr) : Option (Str × Str × Arguments × FuncBody × Scope × Addr × List (Str × Addr) × Addr) := match K.lookup a with
  | some ⟨_, _, .func fd, _⟩ => some (fd.name, fd.qualname, fd.params, fd.body, fd.scope, fd.globals, fd.closure, fd.builtins)
  | _ => none
def Fd.ok (K : Fr) (d : Fd) : Bool := PySem.W.keepIn K (.ref d.a) && (match K.lookup d.a with
  | some ⟨_, _, .func fd, _⟩ => (match fd.code, fd.defaults with
    | .ref c, .none => Nat.beq c d.cd && PySem.W.codeIn K (.ref c) d.qual
    | _, _ => false)
  | _ => false)
theorem Fd.dfC {K : Fr} {d : Fd} (e : fnW K d.a = d.val) (c : d.ok K = true) : DfC K d.name d.qual d.st d.clo d.a d.cd := by
  obtain ⟨kp, c2⟩ := Bool.and_eq_true_iff.mp c
  refine ⟨?_, kp⟩
  unfold fnW at e
  cases q : K.lookup d.a with
  | none => rw [q] at c2; cases c2
  | some o =>
    obtain ⟨oc, od, dt, osl⟩ := o
    rw [q] at c2 e
    cases dt with
    | func fd =>
      obtain ⟨n1, n2, n3, n4, n5, n6, n7, n8, n9, n10, n11, n12, n13, n14, n15⟩ := fd
      have e2 : (some (n1, n2, n3, n4, n5, n6, n7, n15) : Option (Str × Str × Arguments × FuncBody × Scope × Addr × List (Str × Addr) × Addr)) = some (d.name, d.qual, C8.fnArgs d.st, .stmts (C8.fnBody d.st), C8.fnScope d.st, mainGlobals, d.clo, builtinsNs) := e
      simp only [Option.some.injEq, Prod.mk.injEq] at e2
      obtain ⟨h1, h2, h3, h4, h5, h6, h7, h8⟩ := e2
      subst h1 h2 h3 h4 h5 h6 h7 h8
      cases n13 with
      | ref cc =>
        cases n8 with
        | none =>
          obtain ⟨k1, k2⟩ := Bool.and_eq_true_iff.mp (show (Nat.beq cc d.cd && PySem.W.codeIn K (.ref cc) d.qual) = true from c2)
          obtain rfl : cc = d.cd := Nat.eq_of_beq_eq_true k1
          exact ⟨oc, od, n9, n10, n11, n12, n14, osl, rfl, k2⟩
        | _ => cases c2
      | _ => cases c2
    | _ => cases c2

/-- facts, by addresses -/
inductive Fc where
  | glo (x : Str) (a : Addr)
  | free (x : Str)
  | int (x : Str) (i : Int)
  | cls (C : Addr)
  | noat (C : Addr) (f : Str)
  | meth (C : Addr) (m : Str) (a : Addr)
  | mkr (C a : Addr)
  | ins (C : Addr)
  | prop (C : Addr) (f : Str) (p g : Addr)
  | find (C : Addr) (f : Str) (a : Addr)
  | ne (C : Addr)
  | exc (C D : Addr) (f : Str) (fI cda cc : Addr)
def optEq (a : Option (Option Value)) (b : Option Value) : Bool := decide (a = some b)
theorem optEq_ok {a : Option (Option Value)} {b : Option Value} (h : optEq a b = true) : a = some b := of_decide_eq_true h
def excVE (K : Fr) (C : Addr) : Bool := match K.lookup C with
  | some ⟨.type "type", _, .cls cd, sl⟩ => (match cd.mro, sl.toList with
    | .ref C' :: bm, [_, _, _, _, some (.builtin n), _] => Nat.beq C' C && (n == "ValueError.__new__" && (!cd.hasDel && (cd.hasDict && PySem.HandSPX.refsVE bm)))
    | _, _ => false)
  | _ => false
def cellB (K : Fr) (cc C : Addr) : Bool := match K.lookup cc with
  | some ⟨_, _, .cell (some (.ref D)), _⟩ => Nat.beq D C
  | _ => false
def fileB (K : Fr) (cda : Addr) : Bool := match K.lookup cda with
  | some ⟨_, _, .fields vs, _⟩ => (match (vs[2]? : Option Value) with
    | some (.str file _) => decide (file = "/claim/cut.py")
    | _ => false)
  | _ => false
def Fc.ok (K : Fr) : Fc → Bool
  | .glo x a => optEq (PySem.W.nsIn K mainGlobals x) (some (.ref a))
  | .free x => optEq (PySem.W.nsIn K mainGlobals x) none
  | .int x i => (match PySem.W.nsIn K mainGlobals x with
    | some (some (.int j _)) => decide (j = i)
    | _ => false)
  | .cls C => PySem.W.plainGet K C Str.empty && (PySem.W.hasDictIn K C && (PySem.W.plainOver K C && optEq (PySem.W.findIn K (.ref C) "__setattr__") (some (.builtin "object.__setattr__"))))
  | .noat C f => optEq (PySem.W.findIn K (.ref C) f) none
  | .meth C m a => optEq (PySem.W.findIn K (.ref C) m) (some (.ref a)) && (PySem.W.isFn K (.ref a) && PySem.W.keepIn K (.ref a))
  | .mkr C a => PySem.W.makesIn K C && (optEq (PySem.W.findIn K (.ref C) "__init__") (some (.ref a)) && (PySem.W.isFn K (.ref a) && PySem.W.keepIn K (.ref C)))
  | .ins C => optEq (PySem.W.findIn K (.ref C) "__class__") (some (.builtin "object.__class__")) && (optEq (PySem.W.specialIn K (.builtin "object.__class__") "__get__") (some (.builtin "getset_descriptor.__get__")) &&
      (decide (PySem.W.takesIn K (.builtin "object.__class__") = some true) && (decide (PySem.W.mroIn K C (.type "object") = some true) && decide (PySem.W.kitOne K (.ref C) (.ref C) = some true))))
  | .prop C f p g => optEq (PySem.W.findIn K (.ref C) f) (some (.ref p)) && (optEq (PySem.W.specialIn K (.ref p) "__get__") (some (.builtin "property.__get__")) && (decide (PySem.W.takesIn K (.ref p) = some true) &&
      (match PySem.W.recIn K p "property" with
        | some (.ref g' :: _) => Nat.beq g' g
        | _ => false)))
  | .find C f a => optEq (PySem.W.findIn K (.ref C) f) (some (.ref a)) && PySem.W.isFn K (.ref a)
  | .ne C => optEq (PySem.W.findIn K (.ref C) "__ne__") (some (.builtin "object.__ne__"))
  | .exc C D f fI cda cc => excVE K C && (optEq (PySem.W.findIn K (.ref C) "__setattr__") (some (.builtin "object.__setattr__")) && (L2.xfB K C && (optEq (PySem.W.findIn K (.ref C) f) none && (optEq (PySem.W.findIn K (.ref C) "code") none &&
      (optEq (PySem.W.findIn K (.ref C) "__init__") (some (.ref fI)) && (decide (PySem.W.typeIn K (.ref fI) = some (.type "function")) && (PySem.W.keepIn K (.ref C) && (decide (PySem.W.typeIn K (.ref C) = some (.type "type")) &&
      (decide (PySem.W.exmOne K (.ref C) (.ref C) = some true) && (cellB K cc C && (fileB K cda && ((PySem.W.clsIn K C).isSome && (decide (PySem.W.mroIn K C (.ref C) = some true) && (optEq (PySem.W.nsIn K cStatics "thirdparty.any") none &&
      (optEq (PySem.W.ks_superIn K C C "__init__") (some (.builtin "ValueError.__init__")) && decide (PySem.W.subIn K (.ref C) (.type "ValueError") = some true))))))))))))))))

/-! the Hook -/
abbrev FnWs : Type := List (Option (Str × Str × Arguments × FuncBody × Scope × Addr × List (Str × Addr) × Addr))
def obsZ (fa : List Fc) (fn : List Fd) (K : Fr) : Bool × FnWs := ((fa.all fun f => f.ok K) && fn.all fun d => d.ok K, fn.map fun d => fnW K d.a)
def valZ (fn : List Fd) : Bool × FnWs := (true, fn.map Fd.val)
def SaysZ (fa : List Fc) (fn : List Fd) (K : Fr) : Prop := obsZ fa fn K = valZ fn
def obsZG (as : List Addr) (fa : List Fc) (fn : List Fd) (g : Addr → Option Obj) : Bool × FnWs := obsZ fa fn (He.frG g as)
def hookZ (as : List Addr) (fa : List Fc) (fn : List Fd) : PySem.W.Hook where
  α := Bool × FnWs
  obs := fun s => obsZG as fa fn s.heap.get?
  val := fun _ => valZ fn
  says := fun _ h => ∃ K : Fr, K.In h ∧ SaysZ fa fn K
  of := fun _ _ e => ⟨_, He.frG_in, e⟩
  keeps := fun _ _ _ ⟨K, hK, c⟩ k => ⟨K, PySem.W.Frag.In.keeps hK k, c⟩
theorem obsZG_eq {as : List Addr} {fa : List Fc} {fn : List Fd} {g : Addr → Option Obj} {s : Shared} (h : ∀ a, g a = s.heap.get? a) : obsZG as fa fn g = (hookZ as fa fn).obs s := by
  have e : g = s.heap.get? := funext h
  rw [e] <;> rfl
theorem SaysZ.fact {fa : List Fc} {fn : List Fd} {K : Fr} (c : SaysZ fa fn K) (i : Nat) {f : Fc} (h : fa[i]? = some f := by rfl) : f.ok K = true := by
  have c1 := (Bool.and_eq_true_iff.mp (show ((fa.all fun f => f.ok K) && fn.all fun d => d.ok K) = true from congrArg (fun z : Bool × FnWs => z.1) c)).1
  exact List.all_eq_true.mp c1 f (List.mem_of_getElem? h)
theorem SaysZ.def_ {fa : List Fc} {fn : List Fd} {K : Fr} (c : SaysZ fa fn K) (i : Nat) {d : Fd} (h : fn[i]? = some d := by rfl) : DfC K d.name d.qual d.st d.clo d.a d.cd := by
  have c2 := (Bool.and_eq_true_iff.mp (show ((fa.all fun f => f.ok K) && fn.all fun d => d.ok K) = true from congrArg (fun z : Bool × FnWs => z.1) c)).2
  have e : fn.map (fun d => fnW K d.a) = fn.map Fd.val := congrArg (fun z : Bool × FnWs => z.2) c
  have e2 : (fn.map fun d => fnW K d.a)[i]? = (fn.map Fd.val)[i]? := by rw [e]
  rw [List.getElem?_map, List.getElem?_map, h] at e2
  exact Fd.dfC (Option.some.inj e2) (List.all_eq_true.mp c2 d (List.mem_of_getElem? h))
end K20

set_option Elab.async false
set_option linter.all false
set_option maxRecDepth 100000
set_option maxHeartbeats 0
namespace K20
open PySem PySem.Spec PyProof.Rows L2
def looseN0 : List PySem.Str := ["_wall", "VeilError", "InvalidNumber", "InvalidText", "BadSizes", "BadList", "BadBits", "Unlike", "any_number", "is_number", "is_bit", "is_row", "check_bits", "Sizes", "check_alike", "FIGURES", "Cover", "_is_residue_word", "lines_of", "read_number", "read_words", "read_row", "read_sizes", "read_rows", "centered", "digits", "is_whole", "lane_width", "packed", "unpacked"]
def looseN1 : List PySem.Str := ["packed_number", "packed_row", "Poly", "Switch", "AROUND", "FACTOR", "STEP", "YIELD_PART", "Made", "Listed", "_is_number_list", "Key", "_law_bag", "_law_draw", "_law_of", "_law_great", "_law_any", "_law_spot", "_law_bits", "_law_like", "_law_sizes", "_law_mid", "_law_step", "_law_residue", "_law_noise", "_law_noises", "_law_numbers", "_law_pen", "_law_own_cover", "_law_own_switch"]
def looseN2 : List PySem.Str := ["_law_split", "_law_phase", "_law_own_led", "_law_size_of", "_law_cover_is", "_law_row", "_law_lead_fits", "_law_list_refused", "_law_body_refused", "_law_wrong"]
def looseN : List PySem.Str := looseN0 ++ (looseN1 ++ (looseN2))
def adrs0 : List Addr := [2, 3, 30, 31, 38, 49, 50, 52, 53, 101, 112, 113, 115, 116, 166, 167, 173, 174, 180, 181, 187, 188, 194, 195, 208, 209, 215, 216, 217, 255]
def adrs1 : List Addr := [256, 272, 273, 295, 296, 302, 303, 346, 347, 376, 377, 432, 433, 439, 440, 446, 447, 453, 454, 460, 461, 467, 468, 491, 492, 575, 576, 591, 592, 603]
def adrs2 : List Addr := [604, 617, 618, 620, 621, 638, 639, 653, 654, 660, 661, 667, 668, 674, 675, 677, 678, 695, 696, 702, 703, 709, 710, 716, 717, 719, 720, 728, 729, 742]
def adrs3 : List Addr := [743, 791, 792, 796, 797, 824, 825, 838, 839, 862, 863, 873, 874, 880, 881, 887, 888, 894, 895, 901, 902, 908, 909, 913, 914, 918, 919, 925, 926, 932]
def adrs4 : List Addr := [933, 939, 940, 946, 947, 953, 954, 958, 959, 963, 964, 970, 971, 975, 976, 982, 983, 989, 990, 994, 995, 999, 1000, 1006, 1007, 1013, 1014, 1018, 1019, 1023]
def adrs5 : List Addr := [1024, 1030, 1031, 1037, 1038, 1042, 1043, 1049, 1050]
def adrs : List Addr := adrs0 ++ (adrs1 ++ (adrs2 ++ (adrs3 ++ (adrs4 ++ (adrs5)))))
def facts0 : List Fc := [.glo "any_number" 167, .glo "is_number" 174, .glo "is_bit" 181, .glo "is_row" 188, .glo "check_bits" 195, .glo "centered" 433, .glo "digits" 440, .glo "is_whole" 447, .glo "lane_width" 454, .glo "packed" 461, .glo "unpacked" 468, .glo "_is_number_list" 729, .glo "_law_bag" 874, .glo "_law_draw" 881, .glo "_law_of" 888, .glo "_law_great" 895, .glo "_law_any" 902, .glo "_law_spot" 909, .glo "_law_bits" 914, .glo "_law_like" 919, .glo "_law_sizes" 926, .glo "_law_mid" 933, .glo "_law_step" 940, .glo "_law_residue" 947, .glo "_law_noise" 954, .glo "_law_noises" 959, .glo "_law_numbers" 964, .glo "_law_pen" 971, .glo "_law_own_cover" 976, .glo "_law_own_switch" 983]
def facts1 : List Fc := [.glo "_law_split" 990, .glo "_law_phase" 995, .glo "_law_own_led" 1000, .glo "_law_size_of" 1007, .glo "_law_cover_is" 1014, .glo "_law_row" 1019, .glo "_law_lead_fits" 1024, .glo "_law_list_refused" 1031, .glo "_law_body_refused" 1038, .glo "_law_wrong" 1043, .glo "law" 1050, .glo "Sizes" 273, .cls 273, .mkr 273 209, .prop 273 "modulus" 217 216, .find 273 "__eq__" 256, .noat 273 "length", .noat 273 "ring", .noat 273 "base", .noat 273 "places", .noat 273 "spread", .noat 273 "_modulus", .ins 273, .glo "Cover" 377, .cls 377, .mkr 377 296, .meth 377 "mask" 303, .find 377 "__eq__" 347, .noat 377 "sizes", .noat 377 "body"]
def facts2 : List Fc := [.noat 377 "_mask", .ins 377, .glo "Poly" 576, .cls 576, .mkr 576 492, .noat 576 "sizes", .noat 576 "_numbers", .glo "Switch" 621, .cls 621, .mkr 621 592, .meth 621 "led" 604, .find 621 "__eq__" 618, .noat 621 "sizes", .noat 621 "width", .noat 621 "_covers", .noat 621 "_lane", .noat 621 "_packed", .ins 621, .glo "Made" 678, .cls 678, .mkr 678 639, .meth 678 "residue" 654, .meth 678 "noise" 661, .meth 678 "twin" 668, .meth 678 "_advance" 675, .noat 678 "_state", .glo "Listed" 720, .cls 720, .mkr 720 696, .meth 720 "residue" 703]
def facts3 : List Fc := [.meth 720 "noise" 710, .meth 720 "twin" 717, .noat 720 "_given_numbers", .noat 720 "_given_noises", .noat 720 "_number_at", .noat 720 "_noise_at", .glo "Key" 863, .cls 863, .mkr 863 743, .meth 863 "_masked" 792, .meth 863 "cover_of" 797, .meth 863 "switch_from" 825, .meth 863 "phase" 839, .noat 863 "sizes", .noat 863 "_bits", .noat 863 "_poly_bits", .noat 863 "_poly", .ne 273, .free "isinstance", .free "int", .free "bool", .free "list", .free "tuple", .free "len", .free "sum", .free "range", .free "zip", .free "all", .free "abs", .free "max"]
def facts4 : List Fc := [.free "sorted", .free "dict", .free "str", .free "enumerate", .free "super", .int "AROUND" 2305843009213693951, .int "FACTOR" 48271, .int "STEP" 1234577, .int "YIELD_PART" 65536, .glo "BadList" 116, .exc 116 31 "at" 113 112 101, .glo "InvalidNumber" 53, .exc 53 31 "value" 50 49 38]
def facts : List Fc := facts0 ++ (facts1 ++ (facts2 ++ (facts3 ++ (facts4))))
def defsZ0 : List Fd := [⟨167, 166, "any_number", "any_number", top 10, []⟩, ⟨174, 173, "is_number", "is_number", top 11, []⟩, ⟨181, 180, "is_bit", "is_bit", top 12, []⟩, ⟨188, 187, "is_row", "is_row", top 13, []⟩, ⟨195, 194, "check_bits", "check_bits", top 14, []⟩, ⟨433, 432, "centered", "centered", top 30, []⟩, ⟨440, 439, "digits", "digits", top 31, []⟩, ⟨447, 446, "is_whole", "is_whole", top 33, []⟩, ⟨454, 453, "lane_width", "lane_width", top 34, []⟩, ⟨461, 460, "packed", "packed", top 35, []⟩, ⟨468, 467, "unpacked", "unpacked", top 36, []⟩, ⟨729, 728, "_is_number_list", "_is_number_list", top 51, []⟩, ⟨874, 873, "_law_bag", "_law_bag", top 55, []⟩, ⟨881, 880, "_law_draw", "_law_draw", top 56, []⟩, ⟨888, 887, "_law_of", "_law_of", top 57, []⟩, ⟨895, 894, "_law_great", "_law_great", top 58, []⟩, ⟨902, 901, "_law_any", "_law_any", top 59, []⟩, ⟨909, 908, "_law_spot", "_law_spot", top 60, []⟩, ⟨914, 913, "_law_bits", "_law_bits", top 61, []⟩, ⟨919, 918, "_law_like", "_law_like", top 62, []⟩, ⟨926, 925, "_law_sizes", "_law_sizes", top 63, []⟩, ⟨933, 932, "_law_mid", "_law_mid", top 64, []⟩, ⟨940, 939, "_law_step", "_law_step", top 65, []⟩, ⟨947, 946, "_law_residue", "_law_residue", top 66, []⟩, ⟨954, 953, "_law_noise", "_law_noise", top 67, []⟩, ⟨959, 958, "_law_noises", "_law_noises", top 68, []⟩, ⟨964, 963, "_law_numbers", "_law_numbers", top 69, []⟩, ⟨971, 970, "_law_pen", "_law_pen", top 70, []⟩, ⟨976, 975, "_law_own_cover", "_law_own_cover", top 71, []⟩, ⟨983, 982, "_law_own_switch", "_law_own_switch", top 72, []⟩]
def defsZ1 : List Fd := [⟨990, 989, "_law_split", "_law_split", top 73, []⟩, ⟨995, 994, "_law_phase", "_law_phase", top 74, []⟩, ⟨1000, 999, "_law_own_led", "_law_own_led", top 75, []⟩, ⟨1007, 1006, "_law_size_of", "_law_size_of", top 76, []⟩, ⟨1014, 1013, "_law_cover_is", "_law_cover_is", top 77, []⟩, ⟨1019, 1018, "_law_row", "_law_row", top 78, []⟩, ⟨1024, 1023, "_law_lead_fits", "_law_lead_fits", top 79, []⟩, ⟨1031, 1030, "_law_list_refused", "_law_list_refused", top 80, []⟩, ⟨1038, 1037, "_law_body_refused", "_law_body_refused", top 81, []⟩, ⟨1043, 1042, "_law_wrong", "_law_wrong", top 82, []⟩, ⟨1050, 1049, "law", "law", top 83, []⟩, ⟨209, 208, "__init__", "Sizes.__init__", meth 16 0, []⟩, ⟨216, 215, "modulus", "Sizes.modulus", meth 16 1, []⟩, ⟨256, 255, "__eq__", "Sizes.__eq__", meth 16 6, []⟩, ⟨296, 295, "__init__", "Cover.__init__", meth 20 0, []⟩, ⟨303, 302, "mask", "Cover.mask", meth 20 1, []⟩, ⟨347, 346, "__eq__", "Cover.__eq__", meth 20 9, []⟩, ⟨492, 491, "__init__", "Poly.__init__", meth 41 0, []⟩, ⟨592, 591, "__init__", "Switch.__init__", meth 43 0, []⟩, ⟨604, 603, "led", "Switch.led", meth 43 2, []⟩, ⟨618, 617, "__eq__", "Switch.__eq__", meth 43 4, []⟩, ⟨639, 638, "__init__", "Made.__init__", meth 49 0, []⟩, ⟨654, 653, "residue", "Made.residue", meth 49 2, []⟩, ⟨661, 660, "noise", "Made.noise", meth 49 3, []⟩, ⟨668, 667, "twin", "Made.twin", meth 49 4, []⟩, ⟨675, 674, "_advance", "Made._advance", meth 49 5, []⟩, ⟨696, 695, "__init__", "Listed.__init__", meth 50 0, []⟩, ⟨703, 702, "residue", "Listed.residue", meth 50 1, []⟩, ⟨710, 709, "noise", "Listed.noise", meth 50 2, []⟩, ⟨717, 716, "twin", "Listed.twin", meth 50 3, []⟩]
def defsZ2 : List Fd := [⟨743, 742, "__init__", "Key.__init__", meth 53 0, []⟩, ⟨792, 791, "_masked", "Key._masked", meth 53 7, []⟩, ⟨797, 796, "cover_of", "Key.cover_of", meth 53 8, []⟩, ⟨825, 824, "switch_from", "Key.switch_from", meth 53 12, []⟩, ⟨839, 838, "phase", "Key.phase", meth 53 14, []⟩, ⟨113, 112, "__init__", "BadList.__init__", meth 6 0, [("__class__", 101)]⟩, ⟨50, 49, "__init__", "InvalidNumber.__init__", meth 3 0, [("__class__", 38)]⟩]
def defsZ : List Fd := defsZ0 ++ (defsZ1 ++ (defsZ2))

abbrev R : PySem.W.OpenRow := PySem.W.OpenLaw.row PySem.Challenge.rw_veiledgates_k20_whole_leading_keeps_phas
abbrev hk : PySem.W.Hook := hookZ adrs facts defsZ
def ob (s : PySem.W.SharedT) : Bool × FnWs := obsZG adrs facts defsZ (HandSHeadRun.getT s)
theorem ob_eq (s : PySem.W.SharedT) : ob s = hk.obs s.abs := obsZG_eq (HandSHeadRun.getT_eq s)
theorem run (w : World) : HandSHeadRun.RunEq R (PySem.W.view R.prog [83]) hk ob 8100 looseN w := by
  intro os
  kernel_rfl
end K20

set_option Elab.async false
set_option linter.all false
set_option maxRecDepth 100000
set_option maxHeartbeats 4000000
namespace K20
open PySem PySem.Spec PyProof.Rows L2
/-- an own exception class over VeilError over ValueError whose __init__ calls super().__init__ and stores code and f -/
structure ExcB (K : Fr) (C : Addr) (f : Str) (fI cda cc : Addr) : Prop where
  cls : ∃ nm q N bs bm sn sub ab col dd k0 k1 k2 k3 k5, K.lookup C = some (excClassObj nm q C N bs bm true sn sub ab col dd k0 k1 k2 k3 k5 "ValueError.__new__") ∧ PySem.HandSPX.refsVE bm = true
  sa : PySem.W.findIn K (.ref C) "__setattr__" = some (some (.builtin "object.__setattr__"))
  xf : L2.XfC K C
  noF : PySem.W.findIn K (.ref C) f = some none
  noC : PySem.W.findIn K (.ref C) "code" = some none
  iC : PySem.W.findIn K (.ref C) "__init__" = some (some (.ref fI))
  tI : PySem.W.typeIn K (.ref fI) = some (.type "function")
  kC : PySem.W.keepIn K (.ref C) = true
  tC : PySem.W.typeIn K (.ref C) = some (.type "type")
  te : PySem.W.exmOne K (.ref C) (.ref C) = some true
  cell : ∃ c d sl, K.lookup cc = some ⟨c, d, .cell (some (.ref C)), sl⟩
  file : ∃ c d vs sl tk, K.lookup cda = some ⟨c, d, .fields vs, sl⟩ ∧ (vs[2]? : Option Value) = some (.str "/claim/cut.py" tk)
  isC : ∃ cd, PySem.W.clsIn K C = some cd
  self : PySem.W.mroIn K C (.ref C) = some true
  opq : PySem.W.nsIn K cStatics "thirdparty.any" = some none
  sup : PySem.W.ks_superIn K C C "__init__" = some (some (.builtin "ValueError.__init__"))
  sub : PySem.W.subIn K (.ref C) (.type "ValueError") = some true
section
variable {K : Fr} {h : Heap} {mg : Str → Option Value}
theorem ba {a b : Bool} (h : (a && b) = true) : a = true ∧ b = true := Bool.and_eq_true_iff.mp h
theorem fc_glo (X : K.In h) (G : h.Ns mainGlobals mg) {x : Str} {a : Addr} (c : (Fc.glo x a).ok K = true) : mg x = some (.ref a) := PySem.W.mg_of X G (optEq_ok c)
theorem fc_free (X : K.In h) (G : h.Ns mainGlobals mg) {x : Str} (c : (Fc.free x).ok K = true) : mg x = none := PySem.W.mg_none_of X G (optEq_ok c)
theorem fc_int (X : K.In h) (G : h.Ns mainGlobals mg) {x : Str} {i : Int} (c : (Fc.int x i).ok K = true) : ∃ t, mg x = some (.int i t) := by
  have c2 : (match PySem.W.nsIn K mainGlobals x with
    | some (some (.int j _)) => decide (j = i)
    | _ => false) = true := c
  cases e : PySem.W.nsIn K mainGlobals x with
  | none => rw [e] at c2; cases c2
  | some o =>
    rw [e] at c2
    cases o with
    | none => cases c2
    | some v =>
      cases v with
      | int j t =>
        have ej : j = i := of_decide_eq_true c2
        rw [ej] at e
        exact ⟨t, PySem.W.mg_of X G e⟩
      | _ => cases c2
theorem fc_cls {C : Addr} (c : (Fc.cls C).ok K = true) : Cls K C := by
  obtain ⟨c1, c⟩ := ba c
  obtain ⟨c2, c⟩ := ba c
  obtain ⟨c3, c4⟩ := ba c
  exact ⟨c1, c2, c3, optEq_ok c4⟩
theorem fc_noat {C : Addr} {f : Str} (c : (Fc.noat C f).ok K = true) : NoAttr K C f := optEq_ok c
theorem fc_meth {C a : Addr} {m : Str} (c : (Fc.meth C m a).ok K = true) : Meth K C m a := by
  obtain ⟨c1, c⟩ := ba c
  obtain ⟨c2, c3⟩ := ba c
  exact ⟨optEq_ok c1, c2, c3⟩
theorem fc_mkr {C a : Addr} (c : (Fc.mkr C a).ok K = true) : Mk K C a := by
  obtain ⟨c1, c⟩ := ba c
  obtain ⟨c2, c⟩ := ba c
  obtain ⟨c3, c4⟩ := ba c
  exact ⟨c1, optEq_ok c2, c3, c4⟩
theorem fc_ins {C : Addr} (cl : Cls K C) (c : (Fc.ins C).ok K = true) : C8.InsC K C := by
  obtain ⟨c1, c⟩ := ba c
  obtain ⟨c2, c⟩ := ba c
  obtain ⟨c3, c⟩ := ba c
  obtain ⟨c4, c5⟩ := ba c
  exact ⟨cl, optEq_ok c1, optEq_ok c2, of_decide_eq_true c3, of_decide_eq_true c4, of_decide_eq_true c5⟩
theorem fc_prop {C p g : Addr} {f : Str} (c : (Fc.prop C f p g).ok K = true) : PropOf K C f p g := by
  obtain ⟨c1, c⟩ := ba c
  obtain ⟨c2, c⟩ := ba c
  obtain ⟨c3, c4⟩ := ba c
  refine ⟨optEq_ok c1, optEq_ok c2, of_decide_eq_true c3, ?_⟩
  have c5 : (match PySem.W.recIn K p "property" with
        | some (.ref g' :: _) => Nat.beq g' g
        | _ => false) = true := c4
  split at c5
  · rename_i g' rest e
    rw [Nat.eq_of_beq_eq_true c5] at e
    exact ⟨rest, e⟩
  · cases c5
theorem fc_find {C a : Addr} {f : Str} (c : (Fc.find C f a).ok K = true) : PySem.W.findIn K (.ref C) f = some (some (.ref a)) ∧ PySem.W.isFn K (.ref a) = true := by
  obtain ⟨c1, c2⟩ := ba c
  exact ⟨optEq_ok c1, c2⟩
theorem fc_ne {C : Addr} (c : (Fc.ne C).ok K = true) : PySem.W.findIn K (.ref C) "__ne__" = some (some (.builtin "object.__ne__")) := optEq_ok c
theorem excVE_ok {C : Addr} (q : excVE K C = true) : ∃ nm q N bs bm sn sub ab col dd k0 k1 k2 k3 k5, K.lookup C = some (excClassObj nm q C N bs bm true sn sub ab col dd k0 k1 k2 k3 k5 "ValueError.__new__") ∧ PySem.HandSPX.refsVE bm = true := by
  unfold excVE at q
  split at q
  · rename_i dd cd sl ho
    split at q
    · rename_i C' bm k0 k1 k2 k3 n k5 hm hs
      obtain ⟨q1, q⟩ := ba q
      obtain ⟨q2, q⟩ := ba q
      obtain ⟨q3, q⟩ := ba q
      obtain ⟨q4, q5⟩ := ba q
      obtain rfl := Nat.eq_of_beq_eq_true q1
      obtain rfl := beq_iff_eq.mp q2
      obtain ⟨nm, bs, mro, ns, qn, hd, sn, sub, ab, col, del⟩ := cd
      dsimp only at hm q3 q4
      have q3' : del = false := by simpa using q3
      subst hm q3' q4
      have hsl : sl = #[k0, k1, k2, k3, some (.builtin "ValueError.__new__"), k5] := by
        obtain ⟨l⟩ := sl
        simp only at hs
        rw [hs]
      subst hsl
      exact ⟨nm, qn, ns, bs, bm, sn, sub, ab, col, dd, k0, k1, k2, k3, k5, ho, q5⟩
    · cases q
  · cases q
theorem fc_exc {C D fI cda cc : Addr} {f : Str} (c : (Fc.exc C D f fI cda cc).ok K = true) : ExcB K C f fI cda cc := by
  obtain ⟨c1, c⟩ := ba c
  obtain ⟨c2, c⟩ := ba c
  obtain ⟨c3, c⟩ := ba c
  obtain ⟨c4, c⟩ := ba c
  obtain ⟨c5, c⟩ := ba c
  obtain ⟨c6, c⟩ := ba c
  obtain ⟨c7, c⟩ := ba c
  obtain ⟨c8, c⟩ := ba c
  obtain ⟨c9, c⟩ := ba c
  obtain ⟨c10, c⟩ := ba c
  obtain ⟨c11, c⟩ := ba c
  obtain ⟨c12, c⟩ := ba c
  obtain ⟨c13, c⟩ := ba c
  obtain ⟨c14, c⟩ := ba c
  obtain ⟨c15, c⟩ := ba c
  obtain ⟨c16, c17⟩ := ba c
  refine ⟨excVE_ok c1, optEq_ok c2, xfB_ok c3, optEq_ok c4, optEq_ok c5, optEq_ok c6, of_decide_eq_true c7, c8, of_decide_eq_true c9, of_decide_eq_true c10, ?_, ?_, Option.isSome_iff_exists.mp c13, of_decide_eq_true c14, optEq_ok c15, optEq_ok c16, of_decide_eq_true c17⟩
  · unfold cellB at c11
    split at c11
    · rename_i D e
      rw [Nat.eq_of_beq_eq_true c11] at e
      exact ⟨_, _, _, e⟩
    · cases c11
  · unfold fileB at c12
    split at c12
    · rename_i vs sl e
      split at c12
      · rename_i file tk e2
        rw [of_decide_eq_true c12] at e2
        exact ⟨_, _, _, _, tk, e, e2⟩
      · cases c12
    · cases c12
end
end K20

set_option Elab.async false
set_option linter.all false
set_option maxRecDepth 100000
set_option maxHeartbeats 4000000
namespace K20
open PySem PySem.Spec PyProof.Rows L2
/-- what the top has written -/
structure Txt (K : Fr) (mg : Str → Option Value) : Prop where
  g_any_number : mg "any_number" = some (.ref 167)
  g_is_number : mg "is_number" = some (.ref 174)
  g_is_bit : mg "is_bit" = some (.ref 181)
  g_is_row : mg "is_row" = some (.ref 188)
  g_check_bits : mg "check_bits" = some (.ref 195)
  g_centered : mg "centered" = some (.ref 433)
  g_digits : mg "digits" = some (.ref 440)
  g_is_whole : mg "is_whole" = some (.ref 447)
  g_lane_width : mg "lane_width" = some (.ref 454)
  g_packed : mg "packed" = some (.ref 461)
  g_unpacked : mg "unpacked" = some (.ref 468)
  g_is_number_list : mg "_is_number_list" = some (.ref 729)
  g_law_bag : mg "_law_bag" = some (.ref 874)
  g_law_draw : mg "_law_draw" = some (.ref 881)
  g_law_of : mg "_law_of" = some (.ref 888)
  g_law_great : mg "_law_great" = some (.ref 895)
  g_law_any : mg "_law_any" = some (.ref 902)
  g_law_spot : mg "_law_spot" = some (.ref 909)
  g_law_bits : mg "_law_bits" = some (.ref 914)
  g_law_like : mg "_law_like" = some (.ref 919)
  g_law_sizes : mg "_law_sizes" = some (.ref 926)
  g_law_mid : mg "_law_mid" = some (.ref 933)
  g_law_step : mg "_law_step" = some (.ref 940)
  g_law_residue : mg "_law_residue" = some (.ref 947)
  g_law_noise : mg "_law_noise" = some (.ref 954)
  g_law_noises : mg "_law_noises" = some (.ref 959)
  g_law_numbers : mg "_law_numbers" = some (.ref 964)
  g_law_pen : mg "_law_pen" = some (.ref 971)
  g_law_own_cover : mg "_law_own_cover" = some (.ref 976)
  g_law_own_switch : mg "_law_own_switch" = some (.ref 983)
  g_law_split : mg "_law_split" = some (.ref 990)
  g_law_phase : mg "_law_phase" = some (.ref 995)
  g_law_own_led : mg "_law_own_led" = some (.ref 1000)
  g_law_size_of : mg "_law_size_of" = some (.ref 1007)
  g_law_cover_is : mg "_law_cover_is" = some (.ref 1014)
  g_law_row : mg "_law_row" = some (.ref 1019)
  g_law_lead_fits : mg "_law_lead_fits" = some (.ref 1024)
  g_law_list_refused : mg "_law_list_refused" = some (.ref 1031)
  g_law_body_refused : mg "_law_body_refused" = some (.ref 1038)
  g_law_wrong : mg "_law_wrong" = some (.ref 1043)
  g_law : mg "law" = some (.ref 1050)
  g_Sizes : mg "Sizes" = some (.ref 273)
  c_Sizes : Cls K 273
  k_Sizes : Mk K 273 209
  p_modulus : PropOf K 273 "modulus" 217 216
  e_Sizes : PySem.W.findIn K (.ref 273) "__eq__" = some (some (.ref 256)) ∧ PySem.W.isFn K (.ref 256) = true
  n_Sizes_length : NoAttr K 273 "length"
  n_Sizes_ring : NoAttr K 273 "ring"
  n_Sizes_base : NoAttr K 273 "base"
  n_Sizes_places : NoAttr K 273 "places"
  n_Sizes_spread : NoAttr K 273 "spread"
  n_Sizes_modulus : NoAttr K 273 "_modulus"
  i_Sizes : C8.InsC K 273
  g_Cover : mg "Cover" = some (.ref 377)
  c_Cover : Cls K 377
  k_Cover : Mk K 377 296
  m_Cover_mask : Meth K 377 "mask" 303
  e_Cover : PySem.W.findIn K (.ref 377) "__eq__" = some (some (.ref 347)) ∧ PySem.W.isFn K (.ref 347) = true
  n_Cover_sizes : NoAttr K 377 "sizes"
  n_Cover_body : NoAttr K 377 "body"
  n_Cover_mask : NoAttr K 377 "_mask"
  i_Cover : C8.InsC K 377
  g_Poly : mg "Poly" = some (.ref 576)
  c_Poly : Cls K 576
  k_Poly : Mk K 576 492
  n_Poly_sizes : NoAttr K 576 "sizes"
  n_Poly_numbers : NoAttr K 576 "_numbers"
  g_Switch : mg "Switch" = some (.ref 621)
  c_Switch : Cls K 621
  k_Switch : Mk K 621 592
  m_Switch_led : Meth K 621 "led" 604
  e_Switch : PySem.W.findIn K (.ref 621) "__eq__" = some (some (.ref 618)) ∧ PySem.W.isFn K (.ref 618) = true
  n_Switch_sizes : NoAttr K 621 "sizes"
  n_Switch_width : NoAttr K 621 "width"
  n_Switch_covers : NoAttr K 621 "_covers"
  n_Switch_lane : NoAttr K 621 "_lane"
  n_Switch_packed : NoAttr K 621 "_packed"
  i_Switch : C8.InsC K 621
  g_Made : mg "Made" = some (.ref 678)
  c_Made : Cls K 678
  k_Made : Mk K 678 639
  m_Made_residue : Meth K 678 "residue" 654
  m_Made_noise : Meth K 678 "noise" 661
  m_Made_twin : Meth K 678 "twin" 668
  m_Made_advance : Meth K 678 "_advance" 675
  n_Made_state : NoAttr K 678 "_state"
  g_Listed : mg "Listed" = some (.ref 720)
  c_Listed : Cls K 720
  k_Listed : Mk K 720 696
  m_Listed_residue : Meth K 720 "residue" 703
  m_Listed_noise : Meth K 720 "noise" 710
  m_Listed_twin : Meth K 720 "twin" 717
  n_Listed_given_numbers : NoAttr K 720 "_given_numbers"
  n_Listed_given_noises : NoAttr K 720 "_given_noises"
  n_Listed_number_at : NoAttr K 720 "_number_at"
  n_Listed_noise_at : NoAttr K 720 "_noise_at"
  g_Key : mg "Key" = some (.ref 863)
  c_Key : Cls K 863
  k_Key : Mk K 863 743
  m_Key_masked : Meth K 863 "_masked" 792
  m_Key_cover_of : Meth K 863 "cover_of" 797
  m_Key_switch_from : Meth K 863 "switch_from" 825
  m_Key_phase : Meth K 863 "phase" 839
  n_Key_sizes : NoAttr K 863 "sizes"
  n_Key_bits : NoAttr K 863 "_bits"
  n_Key_poly_bits : NoAttr K 863 "_poly_bits"
  n_Key_poly : NoAttr K 863 "_poly"
  ne_Sizes : PySem.W.findIn K (.ref 273) "__ne__" = some (some (.builtin "object.__ne__"))
  z_isinstance : mg "isinstance" = none
  z_int : mg "int" = none
  z_bool : mg "bool" = none
  z_list : mg "list" = none
  z_tuple : mg "tuple" = none
  z_len : mg "len" = none
  z_sum : mg "sum" = none
  z_range : mg "range" = none
  z_zip : mg "zip" = none
  z_all : mg "all" = none
  z_abs : mg "abs" = none
  z_max : mg "max" = none
  z_sorted : mg "sorted" = none
  z_dict : mg "dict" = none
  z_str : mg "str" = none
  z_enumerate : mg "enumerate" = none
  z_super : mg "super" = none
  v_AROUND : ∃ t, mg "AROUND" = some (.int 2305843009213693951 t)
  v_FACTOR : ∃ t, mg "FACTOR" = some (.int 48271 t)
  v_STEP : ∃ t, mg "STEP" = some (.int 1234577 t)
  v_YIELD_PART : ∃ t, mg "YIELD_PART" = some (.int 65536 t)
  g_BadList : mg "BadList" = some (.ref 116)
  x_BadList : ExcB K 116 "at" 113 112 101
  g_InvalidNumber : mg "InvalidNumber" = some (.ref 53)
  x_InvalidNumber : ExcB K 53 "value" 50 49 38
  f_any_number : Df K "any_number" "any_number" (top 10) 167 166
  f_is_number : Df K "is_number" "is_number" (top 11) 174 173
  f_is_bit : Df K "is_bit" "is_bit" (top 12) 181 180
  f_is_row : Df K "is_row" "is_row" (top 13) 188 187
  f_check_bits : Df K "check_bits" "check_bits" (top 14) 195 194
  f_centered : Df K "centered" "centered" (top 30) 433 432
  f_digits : Df K "digits" "digits" (top 31) 440 439
  f_is_whole : Df K "is_whole" "is_whole" (top 33) 447 446
  f_lane_width : Df K "lane_width" "lane_width" (top 34) 454 453
  f_packed : Df K "packed" "packed" (top 35) 461 460
  f_unpacked : Df K "unpacked" "unpacked" (top 36) 468 467
  f_is_number_list : Df K "_is_number_list" "_is_number_list" (top 51) 729 728
  f_law_bag : Df K "_law_bag" "_law_bag" (top 55) 874 873
  f_law_draw : Df K "_law_draw" "_law_draw" (top 56) 881 880
  f_law_of : Df K "_law_of" "_law_of" (top 57) 888 887
  f_law_great : Df K "_law_great" "_law_great" (top 58) 895 894
  f_law_any : Df K "_law_any" "_law_any" (top 59) 902 901
  f_law_spot : Df K "_law_spot" "_law_spot" (top 60) 909 908
  f_law_bits : Df K "_law_bits" "_law_bits" (top 61) 914 913
  f_law_like : Df K "_law_like" "_law_like" (top 62) 919 918
  f_law_sizes : Df K "_law_sizes" "_law_sizes" (top 63) 926 925
  f_law_mid : Df K "_law_mid" "_law_mid" (top 64) 933 932
  f_law_step : Df K "_law_step" "_law_step" (top 65) 940 939
  f_law_residue : Df K "_law_residue" "_law_residue" (top 66) 947 946
  f_law_noise : Df K "_law_noise" "_law_noise" (top 67) 954 953
  f_law_noises : Df K "_law_noises" "_law_noises" (top 68) 959 958
  f_law_numbers : Df K "_law_numbers" "_law_numbers" (top 69) 964 963
  f_law_pen : Df K "_law_pen" "_law_pen" (top 70) 971 970
  f_law_own_cover : Df K "_law_own_cover" "_law_own_cover" (top 71) 976 975
  f_law_own_switch : Df K "_law_own_switch" "_law_own_switch" (top 72) 983 982
  f_law_split : Df K "_law_split" "_law_split" (top 73) 990 989
  f_law_phase : Df K "_law_phase" "_law_phase" (top 74) 995 994
  f_law_own_led : Df K "_law_own_led" "_law_own_led" (top 75) 1000 999
  f_law_size_of : Df K "_law_size_of" "_law_size_of" (top 76) 1007 1006
  f_law_cover_is : Df K "_law_cover_is" "_law_cover_is" (top 77) 1014 1013
  f_law_row : Df K "_law_row" "_law_row" (top 78) 1019 1018
  f_law_lead_fits : Df K "_law_lead_fits" "_law_lead_fits" (top 79) 1024 1023
  f_law_list_refused : Df K "_law_list_refused" "_law_list_refused" (top 80) 1031 1030
  f_law_body_refused : Df K "_law_body_refused" "_law_body_refused" (top 81) 1038 1037
  f_law_wrong : Df K "_law_wrong" "_law_wrong" (top 82) 1043 1042
  f_law : Df K "law" "law" (top 83) 1050 1049
  f_Sizes_init : Df K "__init__" "Sizes.__init__" (meth 16 0) 209 208
  f_Sizes_modulus : Df K "modulus" "Sizes.modulus" (meth 16 1) 216 215
  f_Sizes_eq : Df K "__eq__" "Sizes.__eq__" (meth 16 6) 256 255
  f_Cover_init : Df K "__init__" "Cover.__init__" (meth 20 0) 296 295
  f_Cover_mask : Df K "mask" "Cover.mask" (meth 20 1) 303 302
  f_Cover_eq : Df K "__eq__" "Cover.__eq__" (meth 20 9) 347 346
  f_Poly_init : Df K "__init__" "Poly.__init__" (meth 41 0) 492 491
  f_Switch_init : Df K "__init__" "Switch.__init__" (meth 43 0) 592 591
  f_Switch_led : Df K "led" "Switch.led" (meth 43 2) 604 603
  f_Switch_eq : Df K "__eq__" "Switch.__eq__" (meth 43 4) 618 617
  f_Made_init : Df K "__init__" "Made.__init__" (meth 49 0) 639 638
  f_Made_residue : Df K "residue" "Made.residue" (meth 49 2) 654 653
  f_Made_noise : Df K "noise" "Made.noise" (meth 49 3) 661 660
  f_Made_twin : Df K "twin" "Made.twin" (meth 49 4) 668 667
  f_Made_advance : Df K "_advance" "Made._advance" (meth 49 5) 675 674
  f_Listed_init : Df K "__init__" "Listed.__init__" (meth 50 0) 696 695
  f_Listed_residue : Df K "residue" "Listed.residue" (meth 50 1) 703 702
  f_Listed_noise : Df K "noise" "Listed.noise" (meth 50 2) 710 709
  f_Listed_twin : Df K "twin" "Listed.twin" (meth 50 3) 717 716
  f_Key_init : Df K "__init__" "Key.__init__" (meth 53 0) 743 742
  f_Key_masked : Df K "_masked" "Key._masked" (meth 53 7) 792 791
  f_Key_cover_of : Df K "cover_of" "Key.cover_of" (meth 53 8) 797 796
  f_Key_switch_from : Df K "switch_from" "Key.switch_from" (meth 53 12) 825 824
  f_Key_phase : Df K "phase" "Key.phase" (meth 53 14) 839 838
  f_BadList_init : DfC K "__init__" "BadList.__init__" (meth 6 0) [("__class__", 101)] 113 112
  f_InvalidNumber_init : DfC K "__init__" "InvalidNumber.__init__" (meth 3 0) [("__class__", 38)] 50 49
end K20

set_option Elab.async false
set_option linter.all false
set_option maxRecDepth 100000
set_option maxHeartbeats 4000000
namespace K20
open PySem PySem.Spec PyProof.Rows L2
/-! ### defs by facts -/
section
variable {P : Program} {w : World} {K : Fr} {mg : Str → Option Value} {base : Heap}
theorem Df.fun_ {x qual : Str} {st : Stmt} {a cda : Addr} (F : Df K x qual st a cda) : ∃ fd, C8.Fun K x qual st a fd ∧ fd.defaults = .none ∧ ∃ kV doc pm an ct, fd = PySem.W.fnOf x qual (C8.fnArgs st) (C8.fnBody st) (C8.fnScope st) .none kV doc pm an (.ref cda) ct := by
  obtain ⟨oc, od, kV, doc, pm, an, ct, osl, h1, h2⟩ := F.ex
  exact ⟨_, ⟨oc, od, .none, kV, doc, pm, an, .ref cda, ct, osl, rfl, h1, h2⟩, rfl, kV, doc, pm, an, ct, rfl⟩
abbrev BindOk (x qual : Str) (st : Stmt) (ps : List Str) : Prop := ∀ (kV doc pm : Value) (an : Option Addr) (cdv ct : Value) (us : List Value), us.length = ps.length → bindArgs (PySem.W.fnOf x qual (C8.fnArgs st) (C8.fnBody st) (C8.fnScope st) .none kV doc pm an cdv ct) ⟨us, []⟩ = pure (ps.zip us)
/-- a def of the module -/
theorem cal_of {x : Str} {st : Stmt} {a cda : Addr} {N ps : List Str} {k : Nat} {sp : Sp} (F : Df K x x st a cda) (gm : mg x = some (.ref a)) (S : FnScope N ps (C8.fnScope st)) (b : BindOk x x st ps) (len : ∀ vs H Q E, sp vs H Q E → vs.length = ps.length)
    (hbody : ∀ (cdv : Value) (A : Around) (outer : List Env) (s : Shared) (H : Hp) (vs : List V) (Q : VK) (E : XK), Room k (A.deeper (envOfC x (C8.fnScope st) s.heap.objs.size a cdv)) → sp vs H Q E →
      ∃ t, PSs (cxOf C8.CX0 P w K mg base N x (C8.fnScope st) a cdv A outer s H E).nox (C8.fnBody st) t ∧ t { nx := fun _ H' => Q .non H', rt := Q } (start N vs) H) : C8.Cal P w K mg base (k + 1) x sp [] := by
  obtain ⟨fd, hF, df, _⟩ := F.fun_
  exact C8.cal0 ⟨hF, gm, F.kp⟩ (hF.binds df b) .nil S len hbody
/-- a method -/
theorem met_of {x qual : Str} {st : Stmt} {C a cda : Addr} {N ps : List Str} {k : Nat} {sp : Sp} (F : Df K x qual st a cda) (c : Cls K C) (me : Meth K C x a) (S : FnScope N ps (C8.fnScope st)) (b : BindOk x qual st ps) (len : ∀ vs H Q E, sp vs H Q E → vs.length = ps.length)
    (hbody : ∀ (cdv : Value) (A : Around) (outer : List Env) (s : Shared) (H : Hp) (vs : List V) (Q : VK) (E : XK), Room k (A.deeper (envOfC qual (C8.fnScope st) s.heap.objs.size a cdv)) → sp vs H Q E →
      ∃ t, PSs (cxOf C8.CX0 P w K mg base N qual (C8.fnScope st) a cdv A outer s H E).nox (C8.fnBody st) t ∧ t { nx := fun _ H' => Q .non H', rt := Q } (start N vs) H) : C8.Met P w K mg base (k + 1) C x sp [] := by
  obtain ⟨fd, hF, df, _⟩ := F.fun_
  exact C8.met0 c me hF (hF.binds df b) S len hbody
/-- a class made -/
theorem mak_of {x qual : Str} {st : Stmt} {C a cda : Addr} {N ps : List Str} {k : Nat} {sp : Sp} (F : Df K "__init__" qual st a cda) (M : Mk K C a) (gm : mg x = some (.ref C)) (S : FnScope N ps (C8.fnScope st)) (b : BindOk "__init__" qual st ps) (len : ∀ vs H Q E, sp vs H Q E → vs.length = ps.length)
    (hbody : ∀ (cdv : Value) (A : Around) (outer : List Env) (s : Shared) (H : Hp) (vs : List V) (Q : VK) (E : XK), Room k (A.deeper (envOfC qual (C8.fnScope st) s.heap.objs.size a cdv)) → sp vs H Q E →
      ∃ t, PSs (cxOf C8.CX0 P w K mg base N qual (C8.fnScope st) a cdv A outer s H E).nox (C8.fnBody st) t ∧ t { nx := fun _ H' => Q .non H', rt := Q } (start N vs) H) : C8.Mak P w K mg base (k + 1) x C sp [] := by
  obtain ⟨fd, hF, df, _⟩ := F.fun_
  exact C8.mak0 M gm hF (hF.binds df b) .nil S len hbody
/-- an __eq__, found by the comparison; also any def by its address, with its bound -/
theorem fn_of_df {x qual : Str} {st : Stmt} {a cda : Addr} {N ps : List Str} {k : Nat} {sp : Sp} (F : Df K x qual st a cda) (S : FnScope N ps (C8.fnScope st)) (b : BindOk x qual st ps) (len : ∀ vs H Q E, sp vs H Q E → vs.length = ps.length)
    (hbody : ∀ (cdv : Value) (A : Around) (outer : List Env) (s : Shared) (H : Hp) (vs : List V) (Q : VK) (E : XK), Room k (A.deeper (envOfC qual (C8.fnScope st) s.heap.objs.size a cdv)) → sp vs H Q E →
      ∃ t, PSs (cxOf C8.CX0 P w K mg base N qual (C8.fnScope st) a cdv A outer s H E).nox (C8.fnBody st) t ∧ t { nx := fun _ H' => Q .non H', rt := Q } (start N vs) H) : ∃ fd, FnOk P w K mg base C8.CX0 (k + 1) a fd ps sp ∧ Binds K fd ps [] := by
  obtain ⟨fd, hF, df, _⟩ := F.fun_
  exact ⟨fd, C8.fn0 hF S len hbody, hF.binds df b⟩
end

/-! ### readings made weaker; names of the module -/
section
variable {X : Cx}
theorem PE.imp {e : Expr} {t t' : TE} (h : PE X e t) (i : ∀ σ H Q, t' σ H Q → t σ H Q) : PE X e t' := ⟨fun pins s σ H Q I hw => h.run pins s σ H Q I (i σ H Q hw)⟩
theorem pe_gi {x : Str} {pos : Pos} {i : Int} (hg : Gl X x) (h : ∃ t, X.mg x = some (.int i t)) (hd : (x == ("__debug__" : Str)) = false := by decide) : PE X (.Name x pos) (tC (.int i)) := by
  obtain ⟨t, hm⟩ := h
  exact pe_glob hg hm ⟨t, rfl⟩ hd
theorem pe_ty {pos : Pos} (n : String) (hm : X.mg (PySem.Str.ofString n) = none) (hg : Gl X (PySem.Str.ofString n) := by rfl) (hv : bootBuiltins (PySem.Str.ofString n) = some (.type n) := by decide +kernel) (hn : PySem.Str.ofString n ≠ "__name__" := by decide +kernel)
    (hd : ((PySem.Str.ofString n) == ("__debug__" : Str)) = false := by decide +kernel) : PE X (.Name (PySem.Str.ofString n) pos) (tC (.ty n)) := pe_bltn hg hm hv rfl hn hd
/-- ** of ints, together not too great -/
def CPowW (i j : Int) : Prop := 0 ≤ j ∧ (Builtin.Int.intBits i : Int) * j ≤ 2 ^ 27
theorem op_powW : OpR X (binaryOp .Pow) (rI CPowW fun i j => .int (i ^ j.toNat)) := opI fun _ _ _ _ _ _ _ hc q => pow_int hc.1 hc.2 q
theorem powW_ok {i j : Int} {n m : Nat} (h : i.natAbs < 2 ^ n) (h0 : 0 < n) (hj : j = (m : Int)) (hm : n * m ≤ 134217728) : CPowW i j := by
  refine ⟨by omega, ?_⟩
  have b : Builtin.Int.intBits i ≤ n := by
    unfold Builtin.Int.intBits
    have := PySem.Flt.log2_lt_of h0 h
    split <;> omega
  have : (Builtin.Int.intBits i) * m ≤ n * m := Nat.mul_le_mul_right m b
  have e : (Builtin.Int.intBits i : Int) * j = ((Builtin.Int.intBits i * m : Nat) : Int) := by rw [hj]; simp
  rw [e]
  have : Builtin.Int.intBits i * m ≤ 134217728 := Nat.le_trans this hm
  omega
end

/-! ### readings, a step at a time -/
section
variable {D : Ends} {σ : L2.St} {H : Hp} {Q : VK} {t u : TS} {ta tb te : TE} {tc td : TT} {g : TG} {i : Nat} {v : V} {K : Fr}
theorem r_seq (h : t { D with nx := u D } σ H) : tSeq t u D σ H := h
theorem r_next (h : D.nx σ H) : tNext D σ H := h
theorem r_asg (h : te σ H fun x H1 => g x σ H1 D.nx) : tAsg te g D σ H := h
theorem r_name {Q : L2.St → Hp → Prop} (h : Q (σ.set i (some v)) H) : gName i v σ H Q := h
theorem r_ret (h : te σ H D.rt) : tRet te D σ H := h
theorem r_retN (h : D.rt .non H) : tRetN D σ H := h
theorem r_drop (h : te σ H fun _ H1 => D.nx σ H1) : tDrop te D σ H := h
theorem r_ifS (h : tc σ H fun b H1 => if b = true then t D σ H1 else u D σ H1) : tIfS tc t u D σ H := h
theorem r_par {j : Nat} {ta : TA} (h : ta σ H fun vs H1 => ∃ v w, vs = [v, w] ∧ D.nx ((σ.set i (some v)).set j (some w)) H1) : tPar i j ta D σ H := h
theorem r_par3 {j l : Nat} {ta : TA} (h : ta σ H fun vs H1 => ∃ v w z, vs = [v, w, z] ∧ D.nx (((σ.set i (some v)).set j (some w)).set l (some z)) H1) : tPar3 i j l ta D σ H := h
theorem r_two {Q : V → V → Prop} {a b : V} (h : Q a b) : ∃ v w, [a, b] = [v, w] ∧ Q v w := ⟨a, b, rfl, h⟩
theorem r_three {Q : V → V → V → Prop} {a b c : V} (h : Q a b c) : ∃ v w z, [a, b, c] = [v, w, z] ∧ Q v w z := ⟨a, b, c, rfl, h⟩
theorem r_var (e : σ[i]? = some (some v)) (h : Q v H) : tVar i σ H Q := ⟨v, e, h⟩
theorem r_c (h : Q v H) : tC v σ H Q := h
theorem r_op {r : R2} (h : ta σ H fun x H1 => tb σ H1 fun y H2 => r x y H2 Q) : tOp r ta tb σ H Q := h
theorem r_un {r : V → Hp → VK → Prop} (h : ta σ H fun x H1 => r x H1 Q) : tUn r ta σ H Q := h
theorem r_I0 {f : Int → Int → V} {a b : Int} (h : Q (f a b) H) : rI0 f (.int a) (.int b) H Q := ⟨a, b, rfl, rfl, h⟩
theorem r_I {C : Int → Int → Prop} {f : Int → Int → V} {a b : Int} (c : C a b) (h : Q (f a b) H) : rI C f (.int a) (.int b) H Q := ⟨a, b, rfl, rfl, c, h⟩
theorem r_U {f : Int → V} {a : Int} (h : Q (f a) H) : rU f (.int a) H Q := ⟨a, rfl, h⟩
theorem r_eq {x y : V} (c : scal x y = true) (h : Q (.bl (decide (x = y))) H) : rEq x y H Q := ⟨c, h⟩
theorem r_eqI {x y : Int} (h : Q (.bl (decide (x = y))) H) : rEq (.int x) (.int y) H Q := ⟨rfl, by
  have e : decide (V.int x = V.int y) = decide (x = y) := by
    by_cases q : x = y
    · rw [decide_eq_true q, decide_eq_true (by rw [q])]
    · rw [decide_eq_false q, decide_eq_false (fun z => q (V.int.inj z))]
  rw [e]; exact h⟩
theorem r_neI {x y : Int} (h : Q (.bl (!decide (x = y))) H) : rNe (.int x) (.int y) H Q := ⟨rfl, by
  have e : decide (V.int x = V.int y) = decide (x = y) := by
    by_cases q : x = y
    · rw [decide_eq_true q, decide_eq_true (by rw [q])]
    · rw [decide_eq_false q, decide_eq_false (fun z => q (V.int.inj z))]
  rw [e]; exact h⟩
theorem r_neB {x y : Bool} (h : Q (.bl (x != y)) H) : rNe (.bl x) (.bl y) H Q := ⟨rfl, by
  have e : (!decide (V.bl x = V.bl y)) = (x != y) := by cases x <;> cases y <;> decide
  rw [e]; exact h⟩
theorem r_cb {r : List V → Hp → VK → Prop} {ta : TA} (h : ta σ H fun vs H1 => r vs H1 Q) : tCB r ta σ H Q := h
theorem r_cons {tr : TA} {Q : List V → Hp → Prop} (h : ta σ H fun x H1 => tr σ H1 fun xs H2 => Q (x :: xs) H2) : tCons ta tr σ H Q := h
theorem r_nil {Q : List V → Hp → Prop} (h : Q [] H) : tNil σ H Q := h
theorem r_test {Q : Bool → Hp → Prop} (h : te σ H fun x H' => ∃ k, x = .bl k ∧ Q k H') : tTest te σ H Q := h
theorem r_tB {Q : Bool → Hp → Prop} (h : te σ H fun x H' => ∃ k, x = .bl k ∧ Q k H') : tB te σ H Q := h
theorem r_bl {Q : Bool → Prop} {b : Bool} (h : Q b) : ∃ k, V.bl b = .bl k ∧ Q k := ⟨b, rfl, h⟩
theorem r_not {Q : Bool → Hp → Prop} (h : tc σ H fun c H1 => Q (!c) H1) : tNot tc σ H Q := h
theorem r_notV (h : ta σ H fun x H1 => ∃ c, x = .bl c ∧ Q (.bl (!c)) H1) : tNotV ta σ H Q := h
theorem r_and {Q : Bool → Hp → Prop} (h : tc σ H fun c H1 => if c = true then td σ H1 Q else Q false H1) : tAnd tc td σ H Q := h
theorem r_or {Q : Bool → Hp → Prop} (h : tc σ H fun c H1 => if c = true then Q true H1 else td σ H1 Q) : tOr tc td σ H Q := h
theorem r_andV (h : ta σ H fun x H1 => ∃ c, x = .bl c ∧ if c = true then tb σ H1 Q else Q (.bl false) H1) : tAndV ta tb σ H Q := h
theorem r_orV (h : ta σ H fun x H1 => ∃ c, x = .bl c ∧ if c = true then Q (.bl true) H1 else tb σ H1 Q) : tOrV ta tb σ H Q := h
theorem r_if (h : tc σ H fun c H1 => if c = true then ta σ H1 Q else tb σ H1 Q) : tIf tc ta tb σ H Q := h
theorem r_T {A B : Prop} (h : A) : if (true : Bool) = true then A else B := h
theorem r_F {A B : Prop} (h : B) : if (false : Bool) = true then A else B := h
theorem r_NT {A B : Prop} (h : B) : if (!true : Bool) = true then A else B := h
theorem r_NF {A B : Prop} (h : A) : if (!false : Bool) = true then A else B := h
theorem r_ite {p : Prop} [Decidable p] {A B : Prop} (h1 : p → A) (h2 : ¬ p → B) : if decide p = true then A else B := by
  by_cases c : p
  · rw [if_pos (decide_eq_true c)]; exact h1 c
  · rw [if_neg (by rw [decide_eq_false c]; exact Bool.false_ne_true)]; exact h2 c
theorem r_iteN {p : Prop} [Decidable p] {A B : Prop} (h1 : ¬ p → A) (h2 : p → B) : if (!decide p) = true then A else B := by
  by_cases c : p
  · rw [decide_eq_true c]; exact h2 c
  · rw [decide_eq_false c]; exact h1 c
theorem r_pos {p : Prop} [Decidable p] {A B : Prop} (c : p) (h1 : A) : if decide p = true then A else B := by rw [if_pos (decide_eq_true c)]; exact h1
theorem r_neg {p : Prop} [Decidable p] {A B : Prop} (c : ¬ p) (h1 : B) : if decide p = true then A else B := by rw [decide_eq_false c]; exact h1
theorem r_negN {p : Prop} [Decidable p] {A B : Prop} (c : p) (h1 : B) : if (!decide p) = true then A else B := by rw [decide_eq_true c]; exact h1
theorem r_posN {p : Prop} [Decidable p] {A B : Prop} (c : ¬ p) (h1 : A) : if (!decide p) = true then A else B := by rw [decide_eq_false c]; exact h1
theorem r_call {sp : Sp} {dvs : List V} {E : XK} {t : TA} (h : t σ H fun vs H1 => sp (vs ++ dvs) H1 Q E) : tCall sp dvs E t σ H Q := h
theorem r_meth {C : Addr} {m : Str} {sp : Sp} {dvs : List V} {E : XK} {t : TA} (h : ta σ H fun x H1 => ∃ a dx fs, x = .ref a ∧ H1 a = some (.ins C dx fs) ∧ fs.lookup m = none ∧ t σ H1 fun vs H2 => sp (x :: (vs ++ dvs)) H2 Q E) : tMeth C m sp dvs E ta t σ H Q := h
theorem r_int1 {i : Int} (h : Q (.int i) H) : (∃ j, [V.int i] = [V.int j] ∧ Q (.int j) H) ∨ ∃ k, [V.int i] = [V.bl k] ∧ Q (.int (if k then 1 else 0)) H := .inl ⟨i, rfl, h⟩
theorem r_abs {i : Int} (h : Q (.int (if i < 0 then -i else i)) H) : ∃ j, [V.int i] = [V.int j] ∧ Q (.int (if j < 0 then -j else j)) H := ⟨i, rfl, h⟩
theorem r_max {i j : Int} (h : Q (.int (if j > i then j else i)) H) : ∃ a b, [V.int i, V.int j] = [V.int a, V.int b] ∧ Q (.int (if b > a then b else a)) H := ⟨i, j, rfl, h⟩
theorem r_fld {f : Str} (h : ta σ H fun x H1 => ∃ a C dx fs v, x = .ref a ∧ H1 a = some (.ins C dx fs) ∧ Cls K C ∧ NoAttr K C f ∧ fs.lookup f = some v ∧ Q v H1) : tFld K ta f σ H Q := h
theorem r_tup {ta : TA} (h : ta σ H fun xs H1 => xs.length ≤ sizeLine ∧ ∀ p, H1 p = none → Q (.ref p) (upd H1 p (.tup xs))) : tTup ta σ H Q := h
theorem r_lst {ta : TA} (h : ta σ H fun xs H1 => xs.length ≤ sizeLine ∧ ∀ p, H1 p = none → Q (.ref p) (upd H1 p (.lst xs))) : tLst ta σ H Q := h
theorem fresh {H : Hp} {p : Addr} {o : HO} {R : Hp → Prop} (hp : H p = none) (h : ∀ H1, (∀ b u, H b = some u → H1 b = some u) → H1 p = some o → R H1) : R (upd H p o) := h _ (fun a u e => by rw [upd_ne (ne_of_none e hp)]; exact e) upd_same
theorem nwx {H H1 : Hp} {p : Addr} {o : HO} (hp : H p = none) (hu : upd H p o = H1) : Same H H1 ∧ H1 p = some o := by subst hu; exact ⟨fun a u e => by rw [upd_ne (ne_of_none e hp)]; exact e, upd_same⟩
theorem same_upd {H : Hp} {p : Addr} {o : HO} (h : H p = none) : Same H (upd H p o) := fun a u e => by rw [upd_ne (ne_of_none e h)]; exact e
theorem r_laid {o : HO} (h : ∀ p H2, H p = none → Same H H2 → H2 p = some o → Q (.ref p) H2) : ∀ p, H p = none → Q (.ref p) (upd H p o) := fun p hp => h p _ hp (same_upd hp) upd_same
theorem r_new {n : Nat} {o : HO} (l : n ≤ 100000) (h : ∀ p H2, H p = none → Same H H2 → H2 p = some o → Q (.ref p) H2) : n ≤ sizeLine ∧ ∀ p, H p = none → Q (.ref p) (upd H p o) := ⟨Nat.le_trans l (by decide), r_laid h⟩
/-- isinstance of one class -/
theorem r_isi {x c : V} {t u : Value} {b : Bool} (hc : ClsV c u) (ty : TyX K H x t) (e : PySem.W.kitOne K t u = some b) (h : Q (.bl b) H) : rIsi K [x, c] H Q := ⟨x, c, t, u, b, rfl, hc, ty, e, h⟩
theorem r_isB {x : V} {a b : String} {r : Bool} (hk : kitB a b = some r) (ty : TyX K H x (.type a)) (h : Q (.bl r) H) : rIsi K [x, .ty b] H Q := ⟨x, .ty b, .type a, .type b, r, rfl, .ty b, ty, kit_ty hk, h⟩
theorem r_isLT {x : V} {a : String} {r r1 r2 : Bool} {p : Addr} (hp : H p = some (.tup [.ty "list", .ty "tuple"])) (h1 : kitB a "list" = some r1) (h2 : kitB a "tuple" = some r2) (hr : (r1 || r2) = r) (ty : TyX K H x (.type a)) (h : Q (.bl r) H) : rIsiT K [x, .ref p] H Q := by
  refine ⟨x, p, _, .type a, [.type "list", .type "tuple"], r, rfl, hp, .cons (.ty _) (.cons (.ty _) .nil), ty, ?_, h⟩
  refine kitAny_cons (kit_ty h1) (fun e => ?_) (fun e => by rw [← hr, e]; rfl)
  refine kitAny_cons (kit_ty h2) (fun e2 => ?_) (fun e2 => by rw [← hr, e, e2]; rfl)
  show some false = some r
  rw [← hr, e, e2]; rfl
theorem r_isL {a : Addr} {xs : List V} {p : Addr} (hp : H p = some (.tup [.ty "list", .ty "tuple"])) (e : H a = some (.lst xs)) (h : Q (.bl true) H) : rIsiT K [.ref a, .ref p] H Q :=
  r_isLT (a := "list") (r1 := true) (r2 := false) hp (by decide +kernel) (by decide +kernel) rfl (.base (.lst e)) h
theorem r_isU {a : Addr} {xs : List V} {p : Addr} (hp : H p = some (.tup [.ty "list", .ty "tuple"])) (e : H a = some (.tup xs)) (h : Q (.bl true) H) : rIsiT K [.ref a, .ref p] H Q :=
  r_isLT (a := "tuple") (r1 := false) (r2 := true) hp (by decide +kernel) (by decide +kernel) rfl (.base (.tup e)) h
/-- an instance of an own class is one of its own -/
theorem r_isO {C a dx : Addr} {fs : List (Str × V)} (i : C8.InsC K C) (e : H a = some (.ins C dx fs)) (h : Q (.bl true) H) : rIsi K [.ref a, .ref C] H Q :=
  ⟨.ref a, .ref C, .ref C, .ref C, true, rfl, .own C, .base (.ins e i.cl i.ha i.hn i.htk i.hm), i.me, h⟩
/-! loops -/
theorem r_lc {wi : TI} {tt : TT} {vs : List Nat} (h : wi σ H fun J H1 => ∀ D, H1 D = none → ∃ W : Nat → Nat → Hp → Prop, (∃ m, W 0 m (upd H1 D (.lst []))) ∧ ∀ i m H, W i m H →
  (J.stop i H ∧ Q (.ref D) H) ∨ (J.go i H ∧ ∃ Nx : Hp → Prop, (∀ H', Nx H' → ∃ m', m' < m ∧ W (i + 1) m' H') ∧ ∀ x H', J.yld i H x H' → g x (wipe σ vs) H' fun σ2 H2 => wipe σ2 vs = wipe σ vs ∧ tt σ2 H2 fun b H3 =>
    if b = true then te σ2 H3 fun y H4 => ∃ acc, H4 D = some (.lst acc) ∧ acc.length < sizeLine ∧ Nx (upd H4 D (.lst (acc ++ [y]))) else Nx H3)) : tLc wi g tt te vs σ H Q := h
theorem r_for {wi : TI} {tb : TS} (h : wi σ H fun J H1 => ∃ W : Nat → Nat → L2.St → Hp → Prop, (∃ m, W 0 m σ H1) ∧ ∀ i m σ H, W i m σ H →
      (J.stop i H ∧ D.nx σ H) ∨ (J.go i H ∧ ∃ N : L2.St → Hp → Prop, (∀ σ' H', N σ' H' → ∃ m', m' < m ∧ W (i + 1) m' σ' H') ∧ ∀ x H', J.yld i H x H' → g x σ H' fun σ2 H2 => tb { D with nx := N, ct := N, bk := D.nx } σ2 H2)) : tFor wi g tb D σ H := h
theorem r_iList {R : It → Hp → Prop} (h : te σ H fun x H1 => ∃ a, x = .ref a ∧ (∃ xs, SqL K H1 a xs) ∧ R (Itl K a) H1) : iList K te σ H R := h
theorem r_iTup {R : It → Hp → Prop} (h : te σ H fun x H1 => ∃ a, x = .ref a ∧ (∃ xs, SqT K H1 a xs) ∧ R (Itt K a) H1) : iTup K te σ H R := h
theorem r_revL (h : te σ H fun x H1 => ∃ a xs, x = .ref a ∧ SqL K H1 a xs ∧ ∀ p, H1 p = none → Q (.ref p) (upd H1 p (.lst xs.reverse))) : tRevL K te σ H Q := h
theorem r_star {t : TA} {Q : List V → Hp → Prop} (h : te σ H fun x H1 => ∃ p xs, x = V.ref p ∧ (SqT K H1 p xs ∨ SqL K H1 p xs) ∧ t σ H1 fun ys H2 => Q (xs ++ ys) H2) : StX.tStar K te t σ H Q := h
theorem r_bits {to : TE} (h : to σ H fun x H1 => ∃ i, x = .int i ∧ Q (.int (Builtin.Int.intBits i : Nat)) H1) : tBits to σ H Q := h
theorem r_iRng {ta : TA} {R : It → Hp → Prop} (h : ta σ H fun vs H1 => ∃ j : Int, vs = [.int j] ∧ -(2 ^ 62) ≤ j ∧ j < 2 ^ 62 ∧ R (Itr 0 j.toNat) H1) : iRng1 ta σ H R := h
theorem r_iEnum {ta : TA} {R : It → Hp → Prop} (h : ta σ H fun vs H1 => ∃ a xs, vs = [.ref a] ∧ SqL K H1 a xs ∧ R (Ite K a) H1) : iEnum K ta σ H R := h
theorem r_iZip {ta : TA} {R : It → Hp → Prop} (h : ta σ H fun vs H1 => ∃ a b xs ys, vs = [.ref a, .ref b] ∧ SqL K H1 a xs ∧ SqL K H1 b ys ∧ R (Itz K a b) H1) : iZip K ta σ H R := h
/-- a comprehension without tests over a walk: I is kept by what happens at the new list -/
theorem lc_inv {J : It} {n : Nat} {G : Hp → Prop} {Y : Nat → Hp → V → Hp → Prop} (wk : Walk J n G Y) {vs : List Nat} {H1 : Hp} {Dl : Addr} {Qd : Hp → Prop} (hD : H1 Dl = none) (I : Nat → List V → Hp → Prop) (h0 : I 0 [] H1)
    (st : ∀ i acc H' o, I i acc H' → I i acc (upd H' Dl o)) (hG : ∀ i acc H', I i acc H' → G H') (hn : n ≤ 100000)
    (hs : ∀ i acc x H2 H', i < n → acc.length = i → I i acc H2 → H2 Dl = some (.lst acc) → Y i H2 x H' → ∀ Kc : VK, (∀ y H4, H4 Dl = some (.lst acc) → I (i + 1) (acc ++ [y]) H4 → Kc y H4) → g x (wipe σ vs) H' fun σ2 H3 => wipe σ2 vs = wipe σ vs ∧ te σ2 H3 Kc)
    (hd : ∀ acc H', acc.length = n → I n acc H' → H' Dl = some (.lst acc) → Qd H') :
    ∃ W : Nat → Nat → Hp → Prop, (∃ m, W 0 m (upd H1 Dl (.lst []))) ∧ ∀ i m H, W i m H →
      (J.stop i H ∧ Qd H) ∨ (J.go i H ∧ ∃ Nx : Hp → Prop, (∀ H', Nx H' → ∃ m', m' < m ∧ W (i + 1) m' H') ∧ ∀ x H', J.yld i H x H' → g x (wipe σ vs) H' fun σ2 H2 => wipe σ2 vs = wipe σ vs ∧ tYes σ2 H2 fun b H3 =>
        if b = true then te σ2 H3 fun y H4 => ∃ acc, H4 Dl = some (.lst acc) ∧ acc.length < sizeLine ∧ Nx (upd H4 Dl (.lst (acc ++ [y]))) else Nx H3) := by
  refine lc_it wk (fun i H' => ∃ acc, acc.length = i ∧ H' Dl = some (.lst acc) ∧ I i acc H') ⟨[], rfl, upd_same, st _ _ _ _ h0⟩ (fun i H' _ ⟨acc, _, _, hI⟩ => hG _ _ _ hI) (fun i x H2 H' hi ⟨acc, hl, hDl, hI⟩ y => ?_) (fun H' ⟨acc, hl, hDl, hI⟩ => hd acc H' hl hI hDl)
  exact hs i acc x H2 H' hi hl hI hDl y _ fun v H4 h4 h5 => ⟨acc, h4, Nat.lt_of_lt_of_le (by omega : acc.length < 100000) (by decide), acc ++ [v], by simp [hl], upd_same, st _ _ _ _ h5⟩
/-! more readings -/
theorem r_sub {to ti : TE} {ts : TSet} {Q : L2.St → Hp → Prop} (h : to σ H fun o H1 => ti σ H1 fun i H2 => ts o i v H2 fun H3 => Q σ H3) : gSub to ti ts v σ H Q := h
theorem r_sfld {f : Str} {tv : TE} (h : tv σ H fun y H1 => ta σ H1 fun x H2 => ∃ a C dx fs, x = .ref a ∧ H2 a = some (.ins C dx fs) ∧ Cls K C ∧ NoAttr K C f ∧ fs.length < 1000 ∧ D.nx σ (upd H2 a (.ins C dx (putF f y fs)))) : sFld K ta tv f D σ H := h
theorem r_bm {Ty : String} {r : V → List V → Hp → VK → Prop} {to : TE} {t : TA} (h : to σ H fun x H1 => tyV K Ty x H1 ∧ t σ H1 fun xs H2 => r x xs H2 Q) : tBM K Ty r to t σ H Q := h
theorem r_make {C : Addr} {sp : Sp} {dvs : List V} {E : XK} {t : TA} (h : t σ H fun vs H1 => ∀ x dx, H1 x = none → H1 dx = none → dx ≠ x → sp (.ref x :: (vs ++ dvs)) (upd (upd H1 dx (.own x)) x (.ins C dx [])) (fun v H2 => v = .non ∧ Q (.ref x) H2) E) : tMake C sp dvs E t σ H Q := h
/-- sizes.modulus -/
abbrev tMod (ta : TE) : TE := tProp 273 (getSp 273 "_modulus") [] C8.E0 ta
theorem r_mod {C : Addr} {sp : Sp} {dvs : List V} {E : XK} (h : ta σ H fun x H1 => ∃ a dx fs, x = .ref a ∧ H1 a = some (.ins C dx fs) ∧ sp (.ref a :: dvs) H1 Q E) : tProp C sp dvs E ta σ H Q := h
def GMod (P : Program) (w : World) (K : Fr) (mg : Str → Option Value) (base : Heap) : Prop := ∃ fd, FnOk P w K mg base C8.CX0 1 216 fd ["self"] (getSp 273 "_modulus") ∧ Binds K fd ["self"] []
theorem pe_mod {X : Cx} {e : Expr} {pos : Pos} {j : Nat} (T : Txt X.K X.mg) (F : GMod X.prog X.w X.K X.mg X.base) (hr : Room j X.A) (he : PE X e ta) (hj : 2 ≤ j := by decide) (hab : attributeBase e "modulus" X.env (eval e X.env) = eval e X.env := by rfl) : PE X (.Attribute e "modulus" pos) (tMod ta) := by
  obtain ⟨fd, F, b⟩ := F
  exact pe_prop (E := C8.E0) (dvs := []) (ds := []) he T.c_Sizes T.p_modulus F (hr.mono hj) b .nil (fun _ _ _ _ _ _ _ h => h.elim) hab
theorem r_gtup {n : Nat} {t : TGs} {Q : L2.St → Hp → Prop} (h : ∃ a xs, v = .ref a ∧ SqT K H a xs ∧ xs.length = n ∧ t xs σ H Q) : gTup K n t v σ H Q := h
theorem r_gcons {t : TG} {u : TGs} {vs : List V} {Q : L2.St → Hp → Prop} (h : t v σ H fun σ' H' => u vs σ' H' Q) : gCons t u (v :: vs) σ H Q := ⟨v, vs, rfl, h⟩
theorem r_gnil {Q : L2.St → Hp → Prop} (h : Q σ H) : gNil [] σ H Q := ⟨rfl, h⟩
theorem r_slc {r : V → Option Int → Option Int → Hp → VK → Prop} {tl th : TO} (h : te σ H fun x H1 => tl σ H1 fun lo H2 => th σ H2 fun hi H3 => r x lo hi H3 Q) : tSl r te tl th σ H Q := h
theorem r_part {Q : Option Int → Hp → Prop} (h : te σ H fun x H1 => ∃ i, x = .int i ∧ Q (some i) H1) : tPart te σ H Q := h
theorem r_noPart {Q : Option Int → Hp → Prop} (h : Q none H) : tNoPart σ H Q := h
end
/-! the same rules with K named (inside a comprehension) -/
section
variable {X : Cx} {K : Fr}
theorem pe_fldK {e : Expr} {f : Str} {pos : Pos} {ta : TE} (hK : X.K = K) (he : PE X e ta) (hb : attributeBase e f X.env (eval e X.env) = eval e X.env) : PE X (.Attribute e f pos) (tFld K ta f) := by rw [← hK]; exact pe_fld he hb
theorem pa_starK {e : Expr} {es : List Expr} {p : Pos} {te : TE} {t : TA} (hK : X.K = K) (he : PE X e te) (hr : PA X es t) (hs : starEach (.Starred e p :: es) X.env = (true, eval e X.env) :: starEach es X.env := by rfl) : PA X (.Starred e p :: es) (StX.tStar K te t) := by
  rw [← hK]; exact StX.pa_star he hr hs
theorem ix_listK (hK : X.K = K) : IxR X (rIxL K) := by rw [← hK]; exact ix_list
theorem ix_tupK (hK : X.K = K) : IxR X (rIxT K) := by rw [← hK]; exact ix_tup
theorem pi_listK {tg l : Expr} {tl : TE} (hK : X.K = K) (hl : PE X l tl) : PI X tg l (iList K tl) := by rw [← hK]; exact pi_list hl
theorem pi_tupK {tg l : Expr} {tl : TE} (hK : X.K = K) (hl : PE X l tl) : PI X tg l (iTup K tl) := by rw [← hK]; exact pi_tup hl
theorem call_isiK (hK : X.K = K) : CallR X (.builtin "isinstance") (rIsi K) := by rw [← hK]; exact call_isi
theorem call_isiTK (hK : X.K = K) : CallR X (.builtin "isinstance") (rIsiT K) := by rw [← hK]; exact call_isiT
theorem pg_tupK {es : List Expr} {k : Nat} {pos : Pos} {t : TGs} {n : Nat} (hK : X.K = K) (hc : X.calm = true) (h : PGs X es t)
    (hn : (assignEach es X.env).length = n := by rfl) (hst : (assignEach es X.env).findIdx? (·.1) = none := by rfl) : PG X (.Tuple es k pos) (gTup K n t) := by rw [← hK]; exact pg_tup hc h hn hst
/-- two ways to read the same expression -/
theorem pe_or {e : Expr} {t u : TE} (h : PE X e t) (k : PE X e u) : PE X e (fun σ H Q => t σ H Q ∨ u σ H Q) := ⟨fun pins s σ H Q I hw => hw.elim (h.run pins s σ H Q I) (k.run pins s σ H Q I)⟩
end
end K20

set_option Elab.async false
set_option linter.all false
set_option maxRecDepth 100000
set_option maxHeartbeats 4000000
namespace K20
open PySem PySem.Spec PyProof.Rows L2
/-! ### what stands at an address -/
def intL (ns : List Int) : HO := .lst (ns.map V.int)
def refL (as : List Addr) : HO := .lst (as.map V.ref)
/-- a bag: the one list that the law's draws change -/
def isBag : HO → Bool
  | .lst [.ref _, .int _, .int _, .int _, .int _] => true
  | _ => false
theorem isBag_intL (ns : List Int) : isBag (intL ns) = false := by
  cases ns with
  | nil => rfl
  | cons n ns => rfl
theorem isBag_refL (as : List Addr) : isBag (refL as) = false := by
  cases as with
  | nil => rfl
  | cons a as =>
    cases as with
    | nil => rfl
    | cons b as => rfl
/-- all but bags is kept -/
def KpB (H H' : Hp) : Prop := ∀ a o, H a = some o → isBag o = false → H' a = some o
theorem KpB.refl (H : Hp) : KpB H H := fun _ _ h _ => h
theorem KpB.trans {H H1 H2 : Hp} (a : KpB H H1) (b : KpB H1 H2) : KpB H H2 := fun x o h q => b x o (a x o h q) q
theorem KpB.of {H H' : Hp} (s : Same H H') : KpB H H' := fun a o h _ => s a o h
theorem KpB.upd {H : Hp} {b : Addr} {o : HO} {xs : List V} (h : H b = some (.lst xs)) (hb : isBag (.lst xs) = true) : KpB H (upd H b o) := fun a u e q => by
  have ne : a ≠ b := fun z => by
    rw [z, h] at e
    cases e
    rw [hb] at q; cases q
  rw [upd_ne ne]; exact e
def Pm : Int := 2305843009213693951
structure Bag (b c : Addr) (k : Nat) (H : Hp) : Prop where
  ex : ∃ (cells : List Int) (i g m n : Int), H b = some (.lst [.ref c, .int i, .int g, .int m, .int n]) ∧ H c = some (intL cells) ∧ 0 ≤ i ∧ 0 ≤ g ∧ 0 ≤ m ∧ m < Pm ∧ 0 ≤ n ∧ n ≤ (k : Int)
theorem Bag.mono {b c : Addr} {k j : Nat} {H : Hp} (h : Bag b c k H) (l : k ≤ j) : Bag b c j H := by
  obtain ⟨cells, i, g, m, n, h1, h2, h3, h4, h5, h6, h7, h8⟩ := h.ex
  exact ⟨cells, i, g, m, n, h1, h2, h3, h4, h5, h6, h7, by omega⟩
theorem Bag.same {b c : Addr} {k : Nat} {H H' : Hp} (h : Bag b c k H) (s : Same H H') : Bag b c k H' := by
  obtain ⟨cells, i, g, m, n, h1, h2, h3, h4, h5, h6, h7, h8⟩ := h.ex
  exact ⟨cells, i, g, m, n, s _ _ h1, s _ _ h2, h3, h4, h5, h6, h7, h8⟩
theorem Bag.off {b c D : Addr} {k : Nat} {H : Hp} (h : Bag b c k H) (hD : H D = none) : D ≠ b ∧ D ≠ c := by
  obtain ⟨cells, i, g, m, n, h1, h2, _⟩ := h.ex
  exact ⟨fun e => (by rw [e, h1] at hD; cases hD), fun e => (by rw [e, h2] at hD; cases hD)⟩
theorem Bag.upd {b c D : Addr} {k : Nat} {H : Hp} {o : HO} (h : Bag b c k H) (d : D ≠ b ∧ D ≠ c) : Bag b c k (upd H D o) := by
  obtain ⟨cells, i, g, m, n, h1, h2, h3, h4, h5, h6, h7, h8⟩ := h.ex
  exact ⟨cells, i, g, m, n, by rw [upd_ne d.1.symm]; exact h1, by rw [upd_ne d.2.symm]; exact h2, h3, h4, h5, h6, h7, h8⟩
/-- what is kept and free stays so -/
theorem KpB.updN {H H' : Hp} {D : Addr} {o : HO} (s : KpB H H') (hD : H D = none) : KpB H (L2.upd H' D o) := fun a u e q => by rw [upd_ne (ne_of_none e hD)]; exact s a u e q

/-! ### sizes -/
structure Sz where
  n : Nat
  m : Nat
  b : Nat
  l : Nat
  e : Nat
def Sz.B (z : Sz) : Int := 2 ^ z.b
def Sz.h (z : Sz) : Int := 2 ^ (z.b - 1)
def Sz.q (z : Sz) : Int := z.B ^ z.l
structure Sz.Ok (z : Sz) : Prop where
  n1 : 1 ≤ z.n
  n8 : z.n ≤ 8
  m_ : z.m = 4 ∨ z.m = 8 ∨ z.m = 16 ∨ z.m = 32
  b2 : 2 ≤ z.b
  b16 : z.b ≤ 16
  l1 : 1 ≤ z.l
  l8 : z.l ≤ 8
  e1 : z.e ≤ 1000
  q16 : 16 * (z.m : Int) ≤ z.q
def szF (z : Sz) : List (Str × V) := [("length", .int z.n), ("ring", .int z.m), ("base", .int z.B), ("places", .int z.l), ("spread", .int z.e), ("_modulus", .int z.q)]
def SzAt (z : Sz) (a : Addr) (H : Hp) : Prop := ∃ dx, H a = some (.ins 273 dx (szF z))
theorem SzAt.same {z : Sz} {a : Addr} {H H' : Hp} (h : SzAt z a H) (s : Same H H') : SzAt z a H' := let ⟨d, e⟩ := h; ⟨d, s _ _ e⟩
theorem SzAt.kp {z : Sz} {a : Addr} {H H' : Hp} (h : SzAt z a H) (s : KpB H H') : SzAt z a H' := let ⟨d, e⟩ := h; ⟨d, s _ _ e rfl⟩
/-- the law's own sizes: a tuple -/
def tzV (z : Sz) : List V := [.int z.n, .int z.m, .int z.B, .int z.l, .int z.e, .int z.q]
def TzAt (z : Sz) (a : Addr) (H : Hp) : Prop := H a = some (.tup (tzV z))
theorem pow_pos_int (b : Nat) : (0 : Int) < 2 ^ b := by
  have : (0 : Nat) < 2 ^ b := Nat.two_pow_pos b
  have e : ((2 ^ b : Nat) : Int) = (2 : Int) ^ b := by simp
  omega
theorem Sz.Bpos (z : Sz) : 0 < z.B := pow_pos_int z.b
theorem Sz.hpos (z : Sz) : 0 < z.h := pow_pos_int _
theorem Sz.B2 {z : Sz} (o : z.Ok) : z.B = 2 * z.h := by
  unfold Sz.B Sz.h
  obtain ⟨k, hk⟩ : ∃ k, z.b = k + 1 := ⟨z.b - 1, by have := o.b2; omega⟩
  rw [hk, Nat.add_sub_cancel, Int.pow_succ]
  omega
theorem Sz.qpow (z : Sz) : z.q = 2 ^ (z.b * z.l) := by
  unfold Sz.q Sz.B
  rw [← Int.pow_mul]
theorem Sz.qpos (z : Sz) : 0 < z.q := by rw [z.qpow]; exact pow_pos_int _
theorem Sz.Ble {z : Sz} (o : z.Ok) : z.B ≤ 65536 := by
  have h : z.b ≤ 16 := o.b16
  have : (2 : Nat) ^ z.b ≤ 2 ^ 16 := Nat.pow_le_pow_right (by decide) h
  have e : ((2 ^ z.b : Nat) : Int) = (2 : Int) ^ z.b := by simp
  unfold Sz.B
  have e2 : (2 : Nat) ^ 16 = 65536 := by decide
  omega
theorem Sz.hle {z : Sz} (o : z.Ok) : z.h ≤ 32768 := by
  have := Sz.B2 o
  have := Sz.Ble o
  omega
theorem Sz.qle {z : Sz} (o : z.Ok) : z.q ≤ 2 ^ 128 := by
  rw [z.qpow]
  have h1 : z.b * z.l ≤ 16 * 8 := Nat.mul_le_mul o.b16 o.l8
  have : (2 : Nat) ^ (z.b * z.l) ≤ 2 ^ 128 := Nat.pow_le_pow_right (by decide) h1
  have e : ((2 ^ (z.b * z.l) : Nat) : Int) = (2 : Int) ^ (z.b * z.l) := by simp
  have e2 : ((2 ^ 128 : Nat) : Int) = (2 : Int) ^ 128 := by decide
  omega
theorem Sz.qeven {z : Sz} (o : z.Ok) : z.q = 2 * (z.q / 2) := by
  have h : 1 ≤ z.b * z.l := Nat.mul_pos (by have := o.b2; omega) o.l1
  rw [z.qpow]
  obtain ⟨k, hk⟩ : ∃ k, z.b * z.l = k + 1 := ⟨z.b * z.l - 1, by omega⟩
  rw [hk, Int.pow_succ]
  omega
end K20

set_option Elab.async false
set_option linter.all false
set_option maxRecDepth 100000
set_option maxHeartbeats 4000000
namespace K20
open PySem PySem.Spec PyProof.Rows L2
local macro_rules | `(tactic| walk_at "q1") => `(tactic| first
  | with_reducible refine r_seq ?_ | with_reducible refine r_asg ?_ | with_reducible refine r_name ?_ | with_reducible refine r_ret ?_ | with_reducible refine r_ifS ?_ | with_reducible refine r_next ?_ | with_reducible refine r_drop ?_
  | ((with_reducible show tVar _ _ _ _); refine ⟨_, rfl, ?_⟩) | with_reducible refine r_c ?_ | with_reducible refine r_op ?_ | with_reducible refine r_un ?_ | with_reducible refine r_I0 ?_ | with_reducible refine r_U ?_
  | with_reducible refine r_eqI ?_ | with_reducible refine r_neI ?_ | with_reducible refine r_neB ?_ | with_reducible refine r_cb ?_ | with_reducible refine r_cons ?_ | with_reducible refine r_nil ?_ | with_reducible refine r_test ?_ | with_reducible refine r_tB ?_
  | with_reducible refine r_bl ?_ | with_reducible refine r_not ?_ | with_reducible refine r_notV ?_ | with_reducible refine r_and ?_ | with_reducible refine r_or ?_ | with_reducible refine r_andV ?_ | with_reducible refine r_orV ?_ | with_reducible refine r_if ?_
  | with_reducible refine r_T ?_ | with_reducible refine r_F ?_ | with_reducible refine r_NT ?_ | with_reducible refine r_NF ?_ | with_reducible refine r_call ?_ | with_reducible refine r_meth ?_ | with_reducible refine r_int1 ?_ | with_reducible refine r_fld ?_
  | with_reducible refine r_tup ?_ | with_reducible refine r_lst ?_ | with_reducible refine r_par ?_ | with_reducible refine r_par3 ?_ | with_reducible refine r_two ?_ | with_reducible refine r_three ?_ | with_reducible refine r_abs ?_ | with_reducible refine r_max ?_
  | with_reducible refine r_cut ?_ | with_reducible refine r_lc ?_ | with_reducible refine r_lc2 ?_ | with_reducible refine r_mkB ?_ | with_reducible refine r_for ?_ | with_reducible refine r_iList ?_ | with_reducible refine r_iTup ?_ | with_reducible refine r_revL ?_ | with_reducible refine r_star ?_ | with_reducible refine r_bits ?_ | with_reducible refine r_iRng ?_ | with_reducible refine r_iEnum ?_ | with_reducible refine r_iZip ?_ | with_reducible refine r_sub ?_ | with_reducible refine r_sfld ?_ | with_reducible refine r_bm ?_
  | with_reducible refine r_methK ?_ | with_reducible refine r_methS ?_ | with_reducible refine r_make ?_ | with_reducible refine r_mod ?_ | with_reducible refine r_gtup ?_ | with_reducible refine r_gcons ?_ | with_reducible refine r_gnil ?_ | with_reducible refine r_slc ?_ | with_reducible refine r_part ?_ | with_reducible refine r_noPart ?_)
local macro_rules | `(tactic| walk_at "nw") => `(tactic| (intro p hp; generalize hu : upd _ p _ = H1; obtain ⟨s1, hp1⟩ := nwx hp hu; clear hu))
local macro_rules | `(tactic| walk_at "q") => `(tactic| repeat walk_at "q1")
section
variable {P : Program} {w : World} {K : Fr} {mg : Str → Option Value} {base : Heap}
/-! ### checks -/
def spAnyN : Sp := fun vs H Q _ => ∃ i : Int, vs = [.int i] ∧ Q (.bl true) H
theorem ok_any_number (T : Txt K mg) : C8.Cal P w K mg base 1 "any_number" spAnyN [] := by
  have S : FnScope ["value"] ["value"] (C8.fnScope (top 10)) := C8.fnScope_by (by decide +kernel)
  refine cal_of T.f_any_number T.g_any_number S (fun _ _ _ _ _ _ us hl => match us, hl with | [_], _ => rfl) (fun vs H Q E h => ?_) (fun cdv A outer s H vs Q E hr h => ?_)
  · obtain ⟨i, rfl, _⟩ := h
    rfl
  · obtain ⟨i, rfl, h⟩ := h
    refine ⟨_, (pss_one (ps_ret (pe_and (pe_callB (call_isiK (K := K) rfl) rfl T.z_isinstance (by decide +kernel) (pa_cons (pv 0) (pa_cons (pe_ty "int" T.z_int) pa_nil))) (pe_one (pe_not (pe_callB (call_isiK (K := K) rfl) rfl T.z_isinstance (by decide +kernel) (pa_cons (pv 0) (pa_cons (pe_ty "bool" T.z_bool) pa_nil)))))))), ?_⟩
    walk_at "q"
    refine r_isB (a := "int") (r := true) (by decide +kernel) (.base (.int _)) ?_
    walk_at "q"
    refine r_isB (a := "int") (r := false) (by decide +kernel) (.base (.int _)) ?_
    walk_at "q"
    exact h
def spIsNum : Sp := fun vs H Q _ => ∃ i lo hi : Int, vs = [.int i, .int lo, .int hi] ∧ lo ≤ i ∧ i ≤ hi ∧ Q (.bl true) H
theorem ok_is_number (T : Txt K mg) (c_any_number : C8.Cal P w K mg base 1 "any_number" spAnyN []) : C8.Cal P w K mg base 2 "is_number" spIsNum [] := by
  have S : FnScope ["value", "least", "most"] ["value", "least", "most"] (C8.fnScope (top 11)) := C8.fnScope_by (by decide +kernel)
  refine cal_of T.f_is_number T.g_is_number S (fun _ _ _ _ _ _ us hl => match us, hl with | [_, _, _], _ => rfl) (fun vs H Q E h => ?_) (fun cdv A outer s H vs Q E hr h => ?_)
  · obtain ⟨i, lo, hi, rfl, _⟩ := h
    rfl
  · obtain ⟨i, lo, hi, rfl, h1, h2, h⟩ := h
    refine ⟨_, (pss_one (ps_ret (pe_and (C8.pe_c c_any_number hr (by decide) rfl (pa_cons (pv 0) pa_nil)) (pe_one (pe_chain op_le op_le (pv 1) (pv 0) (pv 2)))))), ?_⟩
    walk_at "q"
    refine ⟨i, rfl, ?_⟩
    walk_at "q"
    refine ⟨_, rfl, _, rfl, _, _, rfl, rfl, _, rfl, ?_⟩
    refine r_pos h1 ?_
    refine ⟨_, rfl, _, _, rfl, rfl, ?_⟩
    show Q (.bl (decide (i ≤ hi))) H
    rw [decide_eq_true h2]
    exact h
def spIsBit : Sp := fun vs H Q _ => ∃ i : Int, vs = [.int i] ∧ 0 ≤ i ∧ i ≤ 1 ∧ Q (.bl true) H
theorem ok_is_bit (T : Txt K mg) (c_is_number : C8.Cal P w K mg base 2 "is_number" spIsNum []) : C8.Cal P w K mg base 3 "is_bit" spIsBit [] := by
  have S : FnScope ["value"] ["value"] (C8.fnScope (top 12)) := C8.fnScope_by (by decide +kernel)
  refine cal_of T.f_is_bit T.g_is_bit S (fun _ _ _ _ _ _ us hl => match us, hl with | [_], _ => rfl) (fun vs H Q E h => ?_) (fun cdv A outer s H vs Q E hr h => ?_)
  · obtain ⟨i, rfl, _⟩ := h
    rfl
  · obtain ⟨i, rfl, h1, h2, h⟩ := h
    refine ⟨_, (pss_one (ps_ret (C8.pe_c c_is_number hr (by decide) rfl (pa_cons (pv 0) (pa_cons pe_int (pa_cons pe_int pa_nil)))))), ?_⟩
    walk_at "q"
    exact ⟨i, 0, 1, rfl, h1, h2, h⟩
def spIsRow : Sp := fun vs H Q _ => ∃ (a : Addr) (xs : List V), vs = [.ref a, .int xs.length] ∧ H a = some (.lst xs) ∧ ∀ H', Same H H' → Q (.bl true) H'
theorem ok_is_row (T : Txt K mg) : C8.Cal P w K mg base 1 "is_row" spIsRow [] := by
  have S : FnScope ["value", "many"] ["value", "many"] (C8.fnScope (top 13)) := C8.fnScope_by (by decide +kernel)
  refine cal_of T.f_is_row T.g_is_row S (fun _ _ _ _ _ _ us hl => match us, hl with | [_, _], _ => rfl) (fun vs H Q E h => ?_) (fun cdv A outer s H vs Q E hr h => ?_)
  · obtain ⟨a, xs, rfl, _⟩ := h
    rfl
  · obtain ⟨a, xs, rfl, ha, h⟩ := h
    refine ⟨_, (pss_one (ps_ret (pe_and (pe_callB (call_isiTK (K := K) rfl) rfl T.z_isinstance (by decide +kernel) (pa_cons (pv 0) (pa_cons (pe_tup (pa_cons (pe_ty "list" T.z_list) (pa_cons (pe_ty "tuple" T.z_tuple) pa_nil))) pa_nil))) (pe_one (pe_cmpR op_eq (pe_callB call_len_seq rfl T.z_len (by decide +kernel) (pa_cons (pv 0) pa_nil)) (pv 1) (nomark _)))))), ?_⟩
    walk_at "q"
    refine ⟨by decide, ?_⟩
    walk_at "nw"
    rename_i p np H1 s1 hp
    walk_at "q"
    refine r_isL hp (s1 _ _ ha) ?_
    walk_at "q"
    refine ⟨a, xs, rfl, .inl (SqL.of (s1 _ _ ha)), ?_⟩
    walk_at "q"
    rw [decide_eq_true rfl]
    exact h _ s1
end
end K20

set_option Elab.async false
set_option linter.all false
set_option maxRecDepth 100000
set_option maxHeartbeats 4000000
namespace K20
open PySem PySem.Spec PyProof.Rows L2
local macro_rules | `(tactic| walk_at "q1") => `(tactic| first
  | with_reducible refine r_seq ?_ | with_reducible refine r_asg ?_ | with_reducible refine r_name ?_ | with_reducible refine r_ret ?_ | with_reducible refine r_ifS ?_ | with_reducible refine r_next ?_ | with_reducible refine r_drop ?_
  | ((with_reducible show tVar _ _ _ _); refine ⟨_, rfl, ?_⟩) | with_reducible refine r_c ?_ | with_reducible refine r_op ?_ | with_reducible refine r_un ?_ | with_reducible refine r_I0 ?_ | with_reducible refine r_U ?_
  | with_reducible refine r_eqI ?_ | with_reducible refine r_neI ?_ | with_reducible refine r_neB ?_ | with_reducible refine r_cb ?_ | with_reducible refine r_cons ?_ | with_reducible refine r_nil ?_ | with_reducible refine r_test ?_ | with_reducible refine r_tB ?_
  | with_reducible refine r_bl ?_ | with_reducible refine r_not ?_ | with_reducible refine r_notV ?_ | with_reducible refine r_and ?_ | with_reducible refine r_or ?_ | with_reducible refine r_andV ?_ | with_reducible refine r_orV ?_ | with_reducible refine r_if ?_
  | with_reducible refine r_T ?_ | with_reducible refine r_F ?_ | with_reducible refine r_NT ?_ | with_reducible refine r_NF ?_ | with_reducible refine r_call ?_ | with_reducible refine r_meth ?_ | with_reducible refine r_int1 ?_ | with_reducible refine r_fld ?_
  | with_reducible refine r_tup ?_ | with_reducible refine r_lst ?_ | with_reducible refine r_par ?_ | with_reducible refine r_par3 ?_ | with_reducible refine r_two ?_ | with_reducible refine r_three ?_ | with_reducible refine r_abs ?_ | with_reducible refine r_max ?_
  | with_reducible refine r_cut ?_ | with_reducible refine r_lc ?_ | with_reducible refine r_lc2 ?_ | with_reducible refine r_mkB ?_ | with_reducible refine r_for ?_ | with_reducible refine r_iList ?_ | with_reducible refine r_iTup ?_ | with_reducible refine r_revL ?_ | with_reducible refine r_star ?_ | with_reducible refine r_bits ?_ | with_reducible refine r_iRng ?_ | with_reducible refine r_iEnum ?_ | with_reducible refine r_iZip ?_ | with_reducible refine r_sub ?_ | with_reducible refine r_sfld ?_ | with_reducible refine r_bm ?_
  | with_reducible refine r_methK ?_ | with_reducible refine r_methS ?_ | with_reducible refine r_make ?_ | with_reducible refine r_mod ?_ | with_reducible refine r_gtup ?_ | with_reducible refine r_gcons ?_ | with_reducible refine r_gnil ?_ | with_reducible refine r_slc ?_ | with_reducible refine r_part ?_ | with_reducible refine r_noPart ?_)
local macro_rules | `(tactic| walk_at "nw") => `(tactic| (intro p hp; generalize hu : upd _ p _ = H1; obtain ⟨s1, hp1⟩ := nwx hp hu; clear hu))
local macro_rules | `(tactic| walk_at "q") => `(tactic| repeat walk_at "q1")
section
variable {P : Program} {w : World} {K : Fr} {mg : Str → Option Value} {base : Heap}
theorem lst_at {bs : List Int} {i : Nat} {x : V} (h : (bs.map V.int)[i]? = some x) : ∃ b, bs[i]? = some b ∧ x = .int b := by
  rw [List.getElem?_map] at h
  cases e : bs[i]? with
  | none => rw [e] at h; cases h
  | some b => rw [e] at h; exact ⟨b, rfl, (Option.some.inj h).symm⟩
def spBits : Sp := fun vs H Q _ => ∃ (a : Addr) (bs : List Int), vs = [.ref a, .int bs.length] ∧ H a = some (intL bs) ∧ (∀ b ∈ bs, 0 ≤ b ∧ b ≤ 1) ∧ ∀ H', Same H H' → Q .non H'
theorem ok_check_bits (T : Txt K mg) (c_is_row : C8.Cal P w K mg base 1 "is_row" spIsRow []) (c_is_bit : C8.Cal P w K mg base 3 "is_bit" spIsBit []) : C8.Cal P w K mg base 4 "check_bits" spBits [] := by
  have S : FnScope ["value", "many", "at", "item"] ["value", "many"] (C8.fnScope (top 14)) := C8.fnScope_by (by decide +kernel)
  refine cal_of T.f_check_bits T.g_check_bits S (fun _ _ _ _ _ _ us hl => match us, hl with | [_, _], _ => rfl) (fun vs H Q E h => ?_) (fun cdv A outer s H vs Q E hr h => ?_)
  · obtain ⟨a, bs, rfl, _⟩ := h
    rfl
  · obtain ⟨a, bs, rfl, ha, hb, h⟩ := h
    refine ⟨_, (pss_cons (ps_if (pt_not (pt_val (C8.pe_c c_is_row hr (by decide) rfl (pa_cons (pv 0) (pa_cons (pv 1) pa_nil))))) (pss_one ps_never) pss_nil)
      (pss_one (ps_for PassesOwn.never rfl (pi_enum rfl T.z_enumerate (pa_cons (pv 0) pa_nil)) (pg_tupK (K := K) (n := 2) rfl rfl (pgs_cons (pg_name (i := 2) S.nd rfl (Or.inl rfl)) (pgs_cons (pg_name (i := 3) S.nd rfl (Or.inl rfl)) pgs_nil))) (pss_one (ps_if (pt_not (pt_val (C8.pe_c c_is_bit hr (by decide) rfl (pa_cons (pv 3) pa_nil)))) (pss_one ps_never) pss_nil))))), ?_⟩
    walk_at "q"
    refine ⟨a, bs.map V.int, by simp, ha, fun H1 s1 => ?_⟩
    walk_at "q"
    refine ⟨a, _, rfl, SqL.of (s1 _ _ ha), ?_⟩
    refine for_it walk_enum (fun i σ H' => ∃ v2 v3, σ = [some (.ref a), some (.int bs.length), v2, v3] ∧ Same H H') ⟨_, _, rfl, s1⟩ (fun i σ H' _ ⟨_, _, _, s⟩ => SqL.of (s _ _ ha)) ?_ ?_
    · rintro i x σ H2 H3 hi ⟨v2, v3, rfl, s2⟩ ⟨T, y, z, rfl, hT, rfl, hy, hz⟩
      cases hy
      obtain ⟨b, hb1, rfl⟩ := lst_at hz
      refine ⟨_, _, rfl, SqT.of upd_same, rfl, ?_⟩
      walk_at "q"
      obtain ⟨b1, b2⟩ := hb b (List.mem_of_getElem? hb1)
      refine ⟨b, rfl, b1, b2, ?_⟩
      walk_at "q"
      exact ⟨_, _, rfl, s2.trans (same_upd hT)⟩
    · rintro σ H2 ⟨v2, v3, rfl, s2⟩
      exact h _ s2
/-- numbers | values that are none -/
def NoInt (K : Fr) (H : Hp) (x : V) : Prop := (∃ b, x = .bl b) ∨ ∃ t, TyX K H x (.type t) ∧ kitB t "int" = some false
def spWh (K : Fr) : Sp := fun vs H Q _ => ∃ x, vs = [x] ∧ ((∃ i : Int, x = .int i ∧ Q (.bl true) H) ∨ (NoInt K H x ∧ Q (.bl false) H))
theorem ok_is_whole (T : Txt K mg) : C8.Cal P w K mg base 1 "is_whole" (spWh K) [] := by
  have S : FnScope ["value"] ["value"] (C8.fnScope (top 33)) := C8.fnScope_by (by decide +kernel)
  refine cal_of T.f_is_whole T.g_is_whole S (fun _ _ _ _ _ _ us hl => match us, hl with | [_], _ => rfl) (fun vs H Q E h => ?_) (fun cdv A outer s H vs Q E hr h => ?_)
  · obtain ⟨i, rfl, _⟩ := h
    rfl
  · obtain ⟨x, rfl, h⟩ := h
    refine ⟨_, (pss_one (ps_ret (pe_and (pe_callB (call_isiK (K := K) rfl) rfl T.z_isinstance (by decide +kernel) (pa_cons (pv 0) (pa_cons (pe_ty "int" T.z_int) pa_nil))) (pe_one (pe_not (pe_callB (call_isiK (K := K) rfl) rfl T.z_isinstance (by decide +kernel) (pa_cons (pv 0) (pa_cons (pe_ty "bool" T.z_bool) pa_nil)))))))), ?_⟩
    walk_at "q"
    rcases h with ⟨i, rfl, h⟩ | ⟨⟨b, rfl⟩ | ⟨t, ty, hk⟩, h⟩
    · refine r_isB (a := "int") (r := true) (by decide +kernel) (.base (.int _)) ?_
      walk_at "q"
      refine r_isB (a := "int") (r := false) (by decide +kernel) (.base (.int _)) ?_
      walk_at "q"
      exact h
    · refine r_isB (a := "bool") (r := true) (by decide +kernel) (.base (.bl _)) ?_
      walk_at "q"
      refine r_isB (a := "bool") (r := true) (by decide +kernel) (.base (.bl _)) ?_
      walk_at "q"
      exact h
    · refine r_isB (a := t) (r := false) hk ty ?_
      walk_at "q"
      exact h
/-- a list or a tuple of numbers, one or more -/
def SqA (a : Addr) (xs : List V) (H : Hp) : Prop := H a = some (.lst xs) ∨ H a = some (.tup xs)
def spNL : Sp := fun vs H Q _ => ∃ (a : Addr) (ns : List Int), vs = [.ref a] ∧ SqA a (ns.map V.int) H ∧ ns ≠ [] ∧ ns.length ≤ 1000 ∧ ∀ H', Same H H' → Q (.bl true) H'
theorem all_true : ∀ n : Nat, (List.replicate n true).all id = true
  | 0 => rfl
  | n + 1 => by simp
theorem ok_is_number_list (T : Txt K mg) (c_any_number : C8.Cal P w K mg base 1 "any_number" spAnyN []) : C8.Cal P w K mg base 2 "_is_number_list" spNL [] := by
  have S : FnScope ["value", "item"] ["value"] (C8.fnScope (top 51)) := C8.fnScope_by (by decide +kernel)
  refine cal_of T.f_is_number_list T.g_is_number_list S (fun _ _ _ _ _ _ us hl => match us, hl with | [_], _ => rfl) (fun vs H Q E h => ?_) (fun cdv A outer s H vs Q E hr h => ?_)
  · obtain ⟨a, ns, rfl, _⟩ := h
    rfl
  · obtain ⟨a, ns, rfl, ha, hne, hl, h⟩ := h
    rcases ha with ha | ha
    · refine ⟨_, (pss_cons (ps_if (PW.pt (pw_or (pt_not (pt_val (pe_callB (call_isiTK (K := K) rfl) rfl T.z_isinstance (by decide +kernel) (pa_cons (pv 0) (pa_cons (pe_tup (pa_cons (pe_ty "list" T.z_list) (pa_cons (pe_ty "tuple" T.z_tuple) pa_nil))) pa_nil))))) (pw_or1 (pt_cmpR op_eq (pe_callB call_len_seq rfl T.z_len (by decide +kernel) (pa_cons (pv 0) pa_nil)) pe_int (nomark _))))) (pss_one (ps_ret pe_bl)) pss_nil)
      (pss_one (ps_ret (pe_callB (cr_all rfl) rfl T.z_all (by decide +kernel) (pa_cons (pe_lc (own := [("item", 1)]) rfl S.nd (pi_listK (K := K) rfl (pv 0)) (blkOk_by (N := ["value", "item"]) (sc := C8.fnScope (top 51)) (by decide +kernel)) (fun _ _ _ _ _ => (pg_name (i := 1) S.nd rfl (Or.inl rfl))) (fun _ _ _ _ _ => pts_nil) (fun _ _ _ _ _ => (C8.pe_c c_any_number hr (by decide) rfl (pa_cons (pv 1) pa_nil)))) pa_nil))))), ?_⟩
      walk_at "q"
      refine ⟨by decide, ?_⟩
      walk_at "nw"
      rename_i p np H1 s1 hp
      walk_at "q"
      refine r_isL hp (s1 _ _ ha) ?_
      walk_at "q"
      refine ⟨a, _, rfl, .inl (SqL.of (s1 _ _ ha)), ?_⟩
      walk_at "q"
      refine r_neg (by simp [hne]) ?_
      walk_at "q"
      refine ⟨a, rfl, ⟨_, SqL.of (s1 _ _ ha)⟩, ?_⟩
      intro D hD
      refine lc_inv walk_list hD (fun i acc H' => acc = (List.replicate i true).map V.bl ∧ Same H1 H') ⟨rfl, Same.refl _⟩ (fun i acc H' o ⟨e, s⟩ => ⟨e, fun b u e => by rw [upd_ne (ne_of_none e hD)]; exact s b u e⟩) (fun i acc H' ⟨_, s⟩ => SqL.of (s _ _ (s1 _ _ ha))) (by rw [List.length_map]; omega) ?_ ?_
      · rintro i acc x H2 H3 hi hla ⟨e, s2⟩ hD2 ⟨rfl, hx⟩ Kc kc
        obtain ⟨b, hb1, rfl⟩ := lst_at hx
        walk_at "q"
        refine ⟨rfl, ?_⟩
        walk_at "q"
        refine ⟨b, rfl, ?_⟩
        exact kc _ _ hD2 ⟨by rw [e, List.replicate_succ', List.map_append]; rfl, s2⟩
      · rintro acc H2 hla ⟨e, s2⟩ hD2
        walk_at "q"
        rw [e] at hD2
        refine ⟨_, _, rfl, SqL.of hD2, ?_⟩
        rw [all_true]
        exact h _ (s1.trans s2)
    · refine ⟨_, (pss_cons (ps_if (PW.pt (pw_or (pt_not (pt_val (pe_callB (call_isiTK (K := K) rfl) rfl T.z_isinstance (by decide +kernel) (pa_cons (pv 0) (pa_cons (pe_tup (pa_cons (pe_ty "list" T.z_list) (pa_cons (pe_ty "tuple" T.z_tuple) pa_nil))) pa_nil))))) (pw_or1 (pt_cmpR op_eq (pe_callB call_len_seq rfl T.z_len (by decide +kernel) (pa_cons (pv 0) pa_nil)) pe_int (nomark _))))) (pss_one (ps_ret pe_bl)) pss_nil)
      (pss_one (ps_ret (pe_callB (cr_all rfl) rfl T.z_all (by decide +kernel) (pa_cons (pe_lc (own := [("item", 1)]) rfl S.nd (pi_tupK (K := K) rfl (pv 0)) (blkOk_by (N := ["value", "item"]) (sc := C8.fnScope (top 51)) (by decide +kernel)) (fun _ _ _ _ _ => (pg_name (i := 1) S.nd rfl (Or.inl rfl))) (fun _ _ _ _ _ => pts_nil) (fun _ _ _ _ _ => (C8.pe_c c_any_number hr (by decide) rfl (pa_cons (pv 1) pa_nil)))) pa_nil))))), ?_⟩
      walk_at "q"
      refine ⟨by decide, ?_⟩
      walk_at "nw"
      rename_i p np H1 s1 hp
      walk_at "q"
      refine r_isU hp (s1 _ _ ha) ?_
      walk_at "q"
      refine ⟨a, _, rfl, .inr (SqT.of (s1 _ _ ha)), ?_⟩
      walk_at "q"
      refine r_neg (by simp [hne]) ?_
      walk_at "q"
      refine ⟨a, rfl, ⟨_, SqT.of (s1 _ _ ha)⟩, ?_⟩
      intro D hD
      refine lc_inv walk_tup hD (fun i acc H' => acc = (List.replicate i true).map V.bl ∧ Same H1 H') ⟨rfl, Same.refl _⟩ (fun i acc H' o ⟨e, s⟩ => ⟨e, fun b u e => by rw [upd_ne (ne_of_none e hD)]; exact s b u e⟩) (fun i acc H' ⟨_, s⟩ => SqT.of (s _ _ (s1 _ _ ha))) (by rw [List.length_map]; omega) ?_ ?_
      · rintro i acc x H2 H3 hi hla ⟨e, s2⟩ hD2 ⟨rfl, hx⟩ Kc kc
        obtain ⟨b, hb1, rfl⟩ := lst_at hx
        walk_at "q"
        refine ⟨rfl, ?_⟩
        walk_at "q"
        refine ⟨b, rfl, ?_⟩
        exact kc _ _ hD2 ⟨by rw [e, List.replicate_succ', List.map_append]; rfl, s2⟩
      · rintro acc H2 hla ⟨e, s2⟩ hD2
        walk_at "q"
        rw [e] at hD2
        refine ⟨_, _, rfl, SqL.of hD2, ?_⟩
        rw [all_true]
        exact h _ (s1.trans s2)
end
end K20

set_option Elab.async false
set_option linter.all false
set_option maxRecDepth 100000
set_option maxHeartbeats 4000000
namespace K20
open PySem PySem.Spec PyProof.Rows L2
local macro_rules | `(tactic| walk_at "q1") => `(tactic| first
  | with_reducible refine r_seq ?_ | with_reducible refine r_asg ?_ | with_reducible refine r_name ?_ | with_reducible refine r_ret ?_ | with_reducible refine r_ifS ?_ | with_reducible refine r_next ?_ | with_reducible refine r_drop ?_
  | ((with_reducible show tVar _ _ _ _); refine ⟨_, rfl, ?_⟩) | with_reducible refine r_c ?_ | with_reducible refine r_op ?_ | with_reducible refine r_un ?_ | with_reducible refine r_I0 ?_ | with_reducible refine r_U ?_
  | with_reducible refine r_eqI ?_ | with_reducible refine r_neI ?_ | with_reducible refine r_neB ?_ | with_reducible refine r_cb ?_ | with_reducible refine r_cons ?_ | with_reducible refine r_nil ?_ | with_reducible refine r_test ?_ | with_reducible refine r_tB ?_
  | with_reducible refine r_bl ?_ | with_reducible refine r_not ?_ | with_reducible refine r_notV ?_ | with_reducible refine r_and ?_ | with_reducible refine r_or ?_ | with_reducible refine r_andV ?_ | with_reducible refine r_orV ?_ | with_reducible refine r_if ?_
  | with_reducible refine r_T ?_ | with_reducible refine r_F ?_ | with_reducible refine r_NT ?_ | with_reducible refine r_NF ?_ | with_reducible refine r_call ?_ | with_reducible refine r_meth ?_ | with_reducible refine r_int1 ?_ | with_reducible refine r_fld ?_
  | with_reducible refine r_tup ?_ | with_reducible refine r_lst ?_ | with_reducible refine r_par ?_ | with_reducible refine r_par3 ?_ | with_reducible refine r_two ?_ | with_reducible refine r_three ?_ | with_reducible refine r_abs ?_ | with_reducible refine r_max ?_
  | with_reducible refine r_cut ?_ | with_reducible refine r_lc ?_ | with_reducible refine r_lc2 ?_ | with_reducible refine r_mkB ?_ | with_reducible refine r_for ?_ | with_reducible refine r_iList ?_ | with_reducible refine r_iTup ?_ | with_reducible refine r_revL ?_ | with_reducible refine r_star ?_ | with_reducible refine r_bits ?_ | with_reducible refine r_iRng ?_ | with_reducible refine r_iEnum ?_ | with_reducible refine r_iZip ?_ | with_reducible refine r_sub ?_ | with_reducible refine r_sfld ?_ | with_reducible refine r_bm ?_
  | with_reducible refine r_methK ?_ | with_reducible refine r_methS ?_ | with_reducible refine r_make ?_ | with_reducible refine r_mod ?_ | with_reducible refine r_gtup ?_ | with_reducible refine r_gcons ?_ | with_reducible refine r_gnil ?_ | with_reducible refine r_slc ?_ | with_reducible refine r_part ?_ | with_reducible refine r_noPart ?_)
local macro_rules | `(tactic| walk_at "nw") => `(tactic| (intro p hp; generalize hu : upd _ p _ = H1; obtain ⟨s1, hp1⟩ := nwx hp hu; clear hu))
local macro_rules | `(tactic| walk_at "q") => `(tactic| repeat walk_at "q1")
section
variable {P : Program} {w : World} {K : Fr} {mg : Str → Option Value} {base : Heap}
/-! ### sizes -/
theorem ok_modulus (T : Txt K mg) : GMod P w K mg base := by
  obtain ⟨oc, od, kV, doc, pm, an, ct, osl, h1, h2⟩ := T.f_Sizes_modulus.ex
  have S : FnScope ["self"] ["self"] (C8.fnScope (meth 16 1)) := C8.fnScope_by (by decide +kernel)
  refine ⟨_, fn_getter (f := "_modulus") (C := 273) h1 h2 S rfl rfl T.c_Sizes T.n_Sizes_modulus, .all fun us hl => ?_⟩
  match us, hl with
  | [_], _ => rfl
def spSizes : Sp := fun vs H Q _ => ∃ (x dx : Addr) (z : Sz), vs = [.ref x, .int z.n, .int z.m, .int z.B, .int z.l, .int z.e] ∧ z.Ok ∧ H x = some (.ins 273 dx []) ∧ ∀ H', (∀ a o, a ≠ x → H a = some o → H' a = some o) → SzAt z x H' → Q .non H'
theorem Sz.mpow {z : Sz} (o : z.Ok) : ∃ k : Nat, (z.m : Int) = 2 ^ k := by
  rcases o.m_ with h | h | h | h
  · exact ⟨2, by rw [h]; rfl⟩
  · exact ⟨3, by rw [h]; rfl⟩
  · exact ⟨4, by rw [h]; rfl⟩
  · exact ⟨5, by rw [h]; rfl⟩
theorem Sz.B4 {z : Sz} (o : z.Ok) : 4 ≤ z.B := by
  have h : 2 ≤ z.b := o.b2
  have : (2 : Nat) ^ 2 ≤ 2 ^ z.b := Nat.pow_le_pow_right (by decide) h
  have e : ((2 ^ z.b : Nat) : Int) = (2 : Int) ^ z.b := by simp
  unfold Sz.B
  have e2 : (2 : Nat) ^ 2 = 4 := by decide
  omega
theorem ok_Sizes (T : Txt K mg) (c_is_number : C8.Cal P w K mg base 2 "is_number" spIsNum []) : C8.Mak P w K mg base 3 "Sizes" 273 spSizes [] := by
  have S : FnScope ["self", "length", "ring", "base", "places", "spread", "modulus", "_"] ["self", "length", "ring", "base", "places", "spread"] (C8.fnScope (meth 16 0)) := C8.fnScope_by (by decide +kernel)
  refine mak_of T.f_Sizes_init T.k_Sizes T.g_Sizes S (fun _ _ _ _ _ _ us hl => match us, hl with | [_, _, _, _, _, _], _ => rfl) (fun vs H Q E h => ?_) (fun cdv A outer s H vs Q E hr h => ?_)
  · obtain ⟨x, dx, z, rfl, _⟩ := h
    rfl
  · obtain ⟨x, dx, z, rfl, o, hx, h⟩ := h
    refine ⟨_, (pss_cons (ps_if (pt_not (pt_val (C8.pe_c c_is_number hr (by decide) rfl (pa_cons (pv 1) (pa_cons pe_int (pa_cons pe_int pa_nil)))))) (pss_one ps_never) pss_nil)
      (pss_cons (ps_if (PW.pt (pw_or (pt_not (pt_val (C8.pe_c c_is_number hr (by decide) rfl (pa_cons (pv 2) (pa_cons pe_int (pa_cons pe_int pa_nil)))))) (pw_or1 (pt_cmpR op_ne (pe_op op_andM (pv 2) (pe_op op_sub (pv 2) pe_int)) pe_int (nomark _))))) (pss_one ps_never) pss_nil)
      (pss_cons (ps_if (PW.pt (pw_or (pt_not (pt_val (C8.pe_c c_is_number hr (by decide) rfl (pa_cons (pv 3) (pa_cons pe_int (pa_cons pe_int pa_nil)))))) (pw_or1 (pt_cmpR op_ne (pe_op op_andM (pv 3) (pe_op op_sub (pv 3) pe_int)) pe_int (nomark _))))) (pss_one ps_never) pss_nil)
      (pss_cons (ps_if (pt_not (pt_val (C8.pe_c c_is_number hr (by decide) rfl (pa_cons (pv 4) (pa_cons pe_int (pa_cons pe_int pa_nil)))))) (pss_one ps_never) pss_nil)
      (pss_cons (ps_if (pt_not (pt_val (C8.pe_c c_is_number hr (by decide) rfl (pa_cons (pv 5) (pa_cons pe_int (pa_cons pe_int pa_nil)))))) (pss_one ps_never) pss_nil)
      (pss_cons (ps_set (i := 6) S.nd rfl (Or.inl rfl) pe_int)
      (pss_cons (ps_for PassesOwn.never rfl (pi_range1 rfl T.z_range (pa_cons (pv 4) pa_nil)) (pg_name (i := 7) S.nd rfl (Or.inl rfl)) (pss_one (ps_set (i := 6) S.nd rfl (Or.inl rfl) (pe_op op_mul (pv 6) (pv 3)))))
      (pss_cons (ps_if (pt_cmpR op_lt (pv 6) (pe_op op_mul pe_int (pv 2)) (nomark _)) (pss_one ps_never) pss_nil)
      (pss_cons (ps_fld (pv 0) (pv 1) rfl)
      (pss_cons (ps_fld (pv 0) (pv 2) rfl)
      (pss_cons (ps_fld (pv 0) (pv 3) rfl)
      (pss_cons (ps_fld (pv 0) (pv 4) rfl)
      (pss_cons (ps_fld (pv 0) (pv 5) rfl)
      (pss_one (ps_fld (pv 0) (pv 6) rfl))))))))))))))), ?_⟩
    have n1 := o.n1
    have n8 := o.n8
    have m_ := o.m_
    have l1 := o.l1
    have l8 := o.l8
    have e1 := o.e1
    have b4 := Sz.B4 o
    have bl := Sz.Ble o
    have q16 := o.q16
    walk_at "q"
    refine ⟨_, _, _, rfl, by omega, by omega, ?_⟩
    walk_at "q"
    refine ⟨_, _, _, rfl, by omega, by omega, ?_⟩
    walk_at "q"
    obtain ⟨k, hk⟩ := Sz.mpow o
    refine ⟨z.m, k, rfl, by rw [hk], ?_⟩
    walk_at "q"
    refine r_negN (by rw [hk]; exact Int.emod_self) ?_
    walk_at "q"
    refine ⟨_, _, _, rfl, by omega, by omega, ?_⟩
    walk_at "q"
    refine ⟨z.B, z.b, rfl, rfl, ?_⟩
    walk_at "q"
    refine r_negN Int.emod_self ?_
    walk_at "q"
    refine ⟨_, _, _, rfl, by omega, by omega, ?_⟩
    walk_at "q"
    refine ⟨_, _, _, rfl, by omega, by omega, ?_⟩
    walk_at "q"
    refine ⟨_, rfl, by omega, by omega, ?_⟩
    refine for_it (walk_range (n := (z.l : Int).toNat)) (fun i σ H' => ∃ v7, σ = [some (.ref x), some (.int z.n), some (.int z.m), some (.int z.B), some (.int z.l), some (.int z.e), some (.int (z.B ^ i)), v7] ∧ H' = H) ⟨_, rfl, rfl⟩ (fun _ _ _ _ _ => trivial) ?_ ?_
    · rintro i v σ H2 H3 hi ⟨v7, rfl, rfl⟩ ⟨rfl, rfl⟩
      walk_at "q"
      refine r_I (.inr ⟨by omega, by omega⟩) ?_
      walk_at "q"
      exact ⟨_, by rw [Int.pow_succ]; rfl, rfl⟩
    · rintro σ H2 ⟨v7, rfl, rfl⟩
      rw [Int.toNat_natCast]
      walk_at "q"
      refine r_I (.inl ⟨by omega, by omega⟩) ?_
      walk_at "q"
      refine r_neg (Int.not_lt.mpr q16) ?_
      walk_at "q"
      refine ⟨x, 273, dx, _, rfl, hx, T.c_Sizes, T.n_Sizes_length, (show (0 : Nat) < 1000 by decide), ?_⟩
      walk_at "q"
      refine ⟨x, 273, dx, _, rfl, upd_same, T.c_Sizes, T.n_Sizes_ring, (show (1 : Nat) < 1000 by decide), ?_⟩
      walk_at "q"
      refine ⟨x, 273, dx, _, rfl, upd_same, T.c_Sizes, T.n_Sizes_base, (show (2 : Nat) < 1000 by decide), ?_⟩
      walk_at "q"
      refine ⟨x, 273, dx, _, rfl, upd_same, T.c_Sizes, T.n_Sizes_places, (show (3 : Nat) < 1000 by decide), ?_⟩
      walk_at "q"
      refine ⟨x, 273, dx, _, rfl, upd_same, T.c_Sizes, T.n_Sizes_spread, (show (4 : Nat) < 1000 by decide), ?_⟩
      walk_at "q"
      refine ⟨x, 273, dx, _, rfl, upd_same, T.c_Sizes, T.n_Sizes_modulus, (show (5 : Nat) < 1000 by decide), ?_⟩
      rw [upd_upd, upd_upd, upd_upd, upd_upd, upd_upd]
      refine h _ (fun a u ne e => by rw [upd_ne ne]; exact e) ⟨dx, ?_⟩
      rw [upd_same]
      rfl
end
end K20

set_option Elab.async false
set_option linter.all false
set_option maxRecDepth 100000
set_option maxHeartbeats 4000000
namespace K20
open PySem PySem.Spec PyProof.Rows L2
local macro_rules | `(tactic| walk_at "q1") => `(tactic| first
  | with_reducible refine r_seq ?_ | with_reducible refine r_asg ?_ | with_reducible refine r_name ?_ | with_reducible refine r_ret ?_ | with_reducible refine r_ifS ?_ | with_reducible refine r_next ?_ | with_reducible refine r_drop ?_
  | ((with_reducible show tVar _ _ _ _); refine ⟨_, rfl, ?_⟩) | with_reducible refine r_c ?_ | with_reducible refine r_op ?_ | with_reducible refine r_un ?_ | with_reducible refine r_I0 ?_ | with_reducible refine r_U ?_
  | with_reducible refine r_eqI ?_ | with_reducible refine r_neI ?_ | with_reducible refine r_neB ?_ | with_reducible refine r_cb ?_ | with_reducible refine r_cons ?_ | with_reducible refine r_nil ?_ | with_reducible refine r_test ?_ | with_reducible refine r_tB ?_
  | with_reducible refine r_bl ?_ | with_reducible refine r_not ?_ | with_reducible refine r_notV ?_ | with_reducible refine r_and ?_ | with_reducible refine r_or ?_ | with_reducible refine r_andV ?_ | with_reducible refine r_orV ?_ | with_reducible refine r_if ?_
  | with_reducible refine r_T ?_ | with_reducible refine r_F ?_ | with_reducible refine r_NT ?_ | with_reducible refine r_NF ?_ | with_reducible refine r_call ?_ | with_reducible refine r_meth ?_ | with_reducible refine r_int1 ?_ | with_reducible refine r_fld ?_
  | with_reducible refine r_tup ?_ | with_reducible refine r_lst ?_ | with_reducible refine r_par ?_ | with_reducible refine r_par3 ?_ | with_reducible refine r_two ?_ | with_reducible refine r_three ?_ | with_reducible refine r_abs ?_ | with_reducible refine r_max ?_
  | with_reducible refine r_cut ?_ | with_reducible refine r_lc ?_ | with_reducible refine r_lc2 ?_ | with_reducible refine r_mkB ?_ | with_reducible refine r_for ?_ | with_reducible refine r_iList ?_ | with_reducible refine r_iTup ?_ | with_reducible refine r_revL ?_ | with_reducible refine r_star ?_ | with_reducible refine r_bits ?_ | with_reducible refine r_iRng ?_ | with_reducible refine r_iEnum ?_ | with_reducible refine r_iZip ?_ | with_reducible refine r_sub ?_ | with_reducible refine r_sfld ?_ | with_reducible refine r_bm ?_
  | with_reducible refine r_methK ?_ | with_reducible refine r_methS ?_ | with_reducible refine r_make ?_ | with_reducible refine r_mod ?_ | with_reducible refine r_gtup ?_ | with_reducible refine r_gcons ?_ | with_reducible refine r_gnil ?_ | with_reducible refine r_slc ?_ | with_reducible refine r_part ?_ | with_reducible refine r_noPart ?_)
local macro_rules | `(tactic| walk_at "nw") => `(tactic| (intro p hp; generalize hu : upd _ p _ = H1; obtain ⟨s1, hp1⟩ := nwx hp hu; clear hu))
local macro_rules | `(tactic| walk_at "q") => `(tactic| repeat walk_at "q1")
section
variable {P : Program} {w : World} {K : Fr} {mg : Str → Option Value} {base : Heap}
/-! ### sizes compared; lanes -/
def REqSz (a b : Addr) (H : Hp) : Prop := ∃ z, SzAt z a H ∧ SzAt z b H
theorem ok_Sizes_eq (T : Txt K mg) : ∃ fd, FnOk P w K mg base C8.CX0 1 256 fd ["self", "other"] (spEq REqSz) ∧ Binds K fd ["self", "other"] [] := by
  have S : FnScope ["self", "other"] ["self", "other"] (C8.fnScope (meth 16 6)) := C8.fnScope_by (by decide +kernel)
  refine fn_of_df T.f_Sizes_eq S (fun _ _ _ _ _ _ us hl => match us, hl with | [_, _], _ => rfl) (fun vs H Q E h => ?_) (fun cdv A outer s H vs Q E hr h => ?_)
  · obtain ⟨a, b, rfl, _⟩ := h
    rfl
  · obtain ⟨a, b, rfl, ⟨z, ⟨dx, ha⟩, ⟨dy, hb⟩⟩, h⟩ := h
    refine ⟨_, (pss_one (ps_ret (pe_and (pe_callB (call_isiK (K := K) rfl) rfl T.z_isinstance (by decide +kernel) (pa_cons (pv 1) (pa_cons (pe_glob (v := .ref 273) rfl T.g_Sizes rfl) pa_nil))) (pe_and (pe_cmpR op_eq (pe_fldK (K := K) rfl (pv 0) rfl) (pe_fldK (K := K) rfl (pv 1) rfl) (nomark _)) (pe_and (pe_cmpR op_eq (pe_fldK (K := K) rfl (pv 0) rfl) (pe_fldK (K := K) rfl (pv 1) rfl) (nomark _)) (pe_and (pe_cmpR op_eq (pe_fldK (K := K) rfl (pv 0) rfl) (pe_fldK (K := K) rfl (pv 1) rfl) (nomark _)) (pe_and (pe_cmpR op_eq (pe_fldK (K := K) rfl (pv 0) rfl) (pe_fldK (K := K) rfl (pv 1) rfl) (nomark _)) (pe_one (pe_cmpR op_eq (pe_fldK (K := K) rfl (pv 0) rfl) (pe_fldK (K := K) rfl (pv 1) rfl) (nomark _)))))))))), ?_⟩
    have i0 := T.i_Sizes
    walk_at "q"
    refine r_isO i0 hb ?_
    walk_at "q"
    refine ⟨_, _, _, _, _, rfl, ha, T.c_Sizes, T.n_Sizes_length, rfl, ?_⟩
    walk_at "q"
    refine ⟨_, _, _, _, _, rfl, hb, T.c_Sizes, T.n_Sizes_length, rfl, ?_⟩
    walk_at "q"
    refine r_pos rfl ?_
    walk_at "q"
    refine ⟨_, _, _, _, _, rfl, ha, T.c_Sizes, T.n_Sizes_ring, rfl, ?_⟩
    walk_at "q"
    refine ⟨_, _, _, _, _, rfl, hb, T.c_Sizes, T.n_Sizes_ring, rfl, ?_⟩
    walk_at "q"
    refine r_pos rfl ?_
    walk_at "q"
    refine ⟨_, _, _, _, _, rfl, ha, T.c_Sizes, T.n_Sizes_base, rfl, ?_⟩
    walk_at "q"
    refine ⟨_, _, _, _, _, rfl, hb, T.c_Sizes, T.n_Sizes_base, rfl, ?_⟩
    walk_at "q"
    refine r_pos rfl ?_
    walk_at "q"
    refine ⟨_, _, _, _, _, rfl, ha, T.c_Sizes, T.n_Sizes_places, rfl, ?_⟩
    walk_at "q"
    refine ⟨_, _, _, _, _, rfl, hb, T.c_Sizes, T.n_Sizes_places, rfl, ?_⟩
    walk_at "q"
    refine r_pos rfl ?_
    walk_at "q"
    refine ⟨_, _, _, _, _, rfl, ha, T.c_Sizes, T.n_Sizes_spread, rfl, ?_⟩
    walk_at "q"
    refine ⟨_, _, _, _, _, rfl, hb, T.c_Sizes, T.n_Sizes_spread, rfl, ?_⟩
    walk_at "q"
    show Q (.bl (decide _)) H
    rw [decide_eq_true rfl]
    exact h H Ext.rfl'
def Sz.most (z : Sz) : Int := 32 * z.l * z.B * z.q
def Sz.lane (z : Sz) : Nat := Builtin.Int.intBits z.most + 1
def spLane : Sp := fun vs H Q _ => ∃ (a : Addr) (z : Sz), vs = [.ref a] ∧ z.Ok ∧ SzAt z a H ∧ Q (.int z.lane) H
theorem ok_lane (T : Txt K mg) (g_modulus : GMod P w K mg base) : C8.Cal P w K mg base 3 "lane_width" spLane [] := by
  have S : FnScope ["sizes", "most"] ["sizes"] (C8.fnScope (top 34)) := C8.fnScope_by (by decide +kernel)
  refine cal_of T.f_lane_width T.g_lane_width S (fun _ _ _ _ _ _ us hl => match us, hl with | [_], _ => rfl) (fun vs H Q E h => ?_) (fun cdv A outer s H vs Q E hr h => ?_)
  · obtain ⟨a, z, rfl, _⟩ := h
    rfl
  · obtain ⟨a, z, rfl, o, ⟨dx, ha⟩, h⟩ := h
    refine ⟨_, (pss_cons (ps_set (i := 1) S.nd rfl (Or.inl rfl) (pe_op op_mul (pe_op op_mul (pe_op op_mul pe_int (pe_fldK (K := K) rfl (pv 0) rfl)) (pe_fldK (K := K) rfl (pv 0) rfl)) (pe_mod T g_modulus hr (pv 0))))
      (pss_one (ps_ret (pe_op op_add (pe_bits (pv 1)) pe_int)))), ?_⟩
    have l8 := o.l8
    have bl := Sz.Ble o
    have bp := z.Bpos
    walk_at "q"
    refine ⟨_, _, _, _, _, rfl, ha, T.c_Sizes, T.n_Sizes_places, rfl, ?_⟩
    walk_at "q"
    refine r_I (.inl ⟨by omega, by omega⟩) ?_
    walk_at "q"
    refine ⟨_, _, _, _, _, rfl, ha, T.c_Sizes, T.n_Sizes_base, rfl, ?_⟩
    walk_at "q"
    refine r_I (.inr ⟨by omega, by omega⟩) ?_
    walk_at "q"
    refine ⟨_, _, _, rfl, ha, _, _, _, _, rfl, ha, rfl, ?_⟩
    walk_at "q"
    have hm : (32 * (z.l : Int) * z.B) ≤ 32 * 8 * 65536 := Int.mul_le_mul (by omega) bl (by omega) (by omega)
    have hm0 : 0 ≤ (32 * (z.l : Int) * z.B) := Int.mul_nonneg (by omega) (by omega)
    refine r_I (.inl ⟨by omega, by omega⟩) ?_
    walk_at "q"
    refine ⟨_, rfl, ?_⟩
    walk_at "q"
    exact h
def spPacked : Sp := fun vs H Q _ => ∃ (a : Addr) (k : Nat) (ns : List Int), vs = [.ref a, .int k] ∧ H a = some (intL ns) ∧ k ≤ 1000 ∧ ns.length ≤ 1000 ∧ (∀ x ∈ ns, 0 ≤ x ∧ x < 2 ^ k) ∧ ∀ H', Same H H' → Q (.int (packG (2 ^ k) ns)) H'
theorem natAbs_lt {x : Int} {n : Nat} (h0 : 0 ≤ x) (h : x < 2 ^ n) : x.natAbs < 2 ^ n := by
  have e : ((2 ^ n : Nat) : Int) = (2 : Int) ^ n := by simp
  omega
theorem packG_bd {M : Int} (hM : 0 < M) : ∀ ns : List Int, (∀ x ∈ ns, 0 ≤ x ∧ x < M) → 0 ≤ packG M ns ∧ packG M ns < M ^ ns.length
  | [], _ => by simp [packG]
  | x :: xs, h => by
    obtain ⟨a, b⟩ := packG_bd hM xs fun y hy => h y (List.mem_cons_of_mem _ hy)
    obtain ⟨c, d⟩ := h x List.mem_cons_self
    refine ⟨Int.add_nonneg c (Int.mul_nonneg (by omega) a), ?_⟩
    show x + M * packG M xs < M ^ (xs.length + 1)
    rw [Int.pow_succ, Int.mul_comm _ M]
    have : M * (packG M xs + 1) ≤ M * M ^ xs.length := Int.mul_le_mul_of_nonneg_left (by omega) (by omega)
    rw [Int.mul_add] at this
    omega
theorem drop_cons {ns : List Int} {n i : Nat} {b : Int} (hn : n = ns.length) (h : ns.reverse[i]? = some b) (hi : i < n) : ns.drop (n - (i + 1)) = b :: ns.drop (n - i) := by
  rw [List.getElem?_reverse (by omega), List.getElem?_eq_some_iff] at h
  obtain ⟨h1, h2⟩ := h
  have e : n - (i + 1) = ns.length - 1 - i := by omega
  rw [e, List.drop_eq_getElem_cons h1, h2]
  congr 2
  omega
theorem ok_packed (T : Txt K mg) : C8.Cal P w K mg base 1 "packed" spPacked [] := by
  have S : FnScope ["row", "lane", "total", "number"] ["row", "lane"] (C8.fnScope (top 35)) := C8.fnScope_by (by decide +kernel)
  refine cal_of T.f_packed T.g_packed S (fun _ _ _ _ _ _ us hl => match us, hl with | [_, _], _ => rfl) (fun vs H Q E h => ?_) (fun cdv A outer s H vs Q E hr h => ?_)
  · obtain ⟨a, k, ns, rfl, _⟩ := h
    rfl
  · obtain ⟨a, k, ns, rfl, ha, hk, hl, hb, h⟩ := h
    refine ⟨_, (pss_cons (ps_set (i := 2) S.nd rfl (Or.inl rfl) pe_int)
      (pss_cons (ps_for PassesOwn.never rfl (pi_listK (K := K) rfl (pe_revL (pv 0))) (pg_name (i := 3) S.nd rfl (Or.inl rfl)) (pss_one (ps_set (i := 2) S.nd rfl (Or.inl rfl) (pe_op op_add (pe_op op_shlW (pv 2) (pv 1)) (pv 3)))))
      (pss_one (ps_ret (pv 2))))), ?_⟩
    walk_at "q"
    refine ⟨_, _, rfl, SqL.of ha, fun p np => ?_⟩
    generalize hu : upd _ p _ = H1
    obtain ⟨s1, hp⟩ := nwx np hu
    clear hu
    refine ⟨p, rfl, ⟨_, SqL.of hp⟩, ?_⟩
    refine for_it walk_list (fun i σ H' => ∃ v3, σ = [some (.ref a), some (.int k), some (.int (packG (2 ^ k) (ns.drop (ns.length - i)))), v3] ∧ H' = H1) ⟨_, by rw [Nat.sub_zero, List.drop_length]; rfl, rfl⟩ (fun i σ H' _ ⟨_, _, e⟩ => by rw [e]; exact SqL.of hp) ?_ ?_
    · rintro i x σ H2 H3 hi ⟨v3, rfl, rfl⟩ ⟨rfl, hx⟩
      rw [← List.map_reverse] at hx
      obtain ⟨b, hb1, rfl⟩ := lst_at hx
      have hi' : i < ns.length := by simpa using hi
      walk_at "q"
      have bd := packG_bd (pow_pos_int k) (ns.drop (ns.length - i)) fun y hy => hb y (List.mem_of_mem_drop hy)
      have hl2 : (ns.drop (ns.length - i)).length = i := by simp; omega
      rw [hl2, ← Int.pow_mul] at bd
      have hm : k * i ≤ 1000 * 1000 := Nat.mul_le_mul hk (by omega)
      refine r_I (shl_ok (n := k * i) (natAbs_lt bd.1 bd.2) (by omega)) ?_
      walk_at "q"
      refine ⟨some (.int b), ?_, rfl⟩
      rw [drop_cons rfl hb1 hi', Int.toNat_natCast]
      show _ = [some (V.ref a), some (.int k), some (.int (b + 2 ^ k * packG (2 ^ k) (ns.drop (ns.length - i)))), some (.int b)]
      rw [Int.mul_comm (2 ^ k) (packG _ _), Int.add_comm b]
      rfl
    · rintro σ H2 ⟨v3, rfl, rfl⟩
      walk_at "q"
      rw [List.length_reverse, List.length_map, Nat.sub_self, List.drop_zero]
      exact h _ s1
theorem unp_length (M h t : Int) : ∀ n, (unp M h t n).length = n
  | 0 => rfl
  | n + 1 => by simp [unp, unp_length M h t n]
def spUnp : Sp := fun vs H Q _ => ∃ (t : Int) (k m : Nat), vs = [.int t, .int (k + 1 : Nat), .int m] ∧ k ≤ 1000 ∧ m ≤ 1000 ∧ ∀ r H', Same H H' → H' r = some (intL (unp (2 ^ (k + 1)) (2 ^ k) t m)) → Q (.ref r) H'
theorem ok_unpacked (T : Txt K mg) : C8.Cal P w K mg base 1 "unpacked" spUnp [] := by
  have S : FnScope ["total", "lane", "many", "half", "low", "row", "_"] ["total", "lane", "many"] (C8.fnScope (top 36)) := C8.fnScope_by (by decide +kernel)
  refine cal_of T.f_unpacked T.g_unpacked S (fun _ _ _ _ _ _ us hl => match us, hl with | [_, _, _], _ => rfl) (fun vs H Q E h => ?_) (fun cdv A outer s H vs Q E hr h => ?_)
  · obtain ⟨t, k, m, rfl, _⟩ := h
    rfl
  · obtain ⟨t, k, m, rfl, hk, hm, h⟩ := h
    refine ⟨_, (pss_cons (ps_set (i := 3) S.nd rfl (Or.inl rfl) (pe_op op_oneShl pe_int (pe_op op_sub (pv 1) pe_int)))
      (pss_cons (ps_set (i := 4) S.nd rfl (Or.inl rfl) (pe_op op_sub (pe_op op_oneShl pe_int (pv 1)) pe_int))
      (pss_cons (ps_set (i := 5) S.nd rfl (Or.inl rfl) (pe_lst pa_nil))
      (pss_cons (ps_for PassesOwn.never rfl (pi_range1 rfl T.z_range (pa_cons (pv 2) pa_nil)) (pg_name (i := 6) S.nd rfl (Or.inl rfl)) (pss_cons (ps_set (i := 0) S.nd rfl (Or.inl rfl) (pe_op op_add (pv 0) (pv 3)))
      (pss_cons (ps_expr (pe_bm PySem.F.plainAttrs_list PySem.F.slot_list_append PySem.F.type_list_append mt_append (pv 5) (pa_cons (pe_op op_sub (pe_op op_andM (pv 0) (pv 4)) (pv 3)) pa_nil)))
      (pss_one (ps_set (i := 0) S.nd rfl (Or.inl rfl) (pe_op op_shrN (pv 0) (pv 1)))))))
      (pss_one (ps_ret (pv 5))))))), ?_⟩
    walk_at "q"
    refine ⟨k, rfl, congrArg V.int (by omega), by omega, ?_⟩
    walk_at "q"
    refine ⟨k + 1, rfl, rfl, by omega, ?_⟩
    walk_at "q"
    refine ⟨by decide, ?_⟩
    walk_at "nw"
    rename_i p np H1 s1 hp
    walk_at "q"
    refine ⟨_, rfl, by omega, by omega, ?_⟩
    refine for_it (walk_range (n := (m : Int).toNat)) (fun i σ H' => ∃ v7, σ = [some (.int (tAt (2 ^ (k + 1)) (2 ^ k) t i)), some (.int (k + 1 : Nat)), some (.int m), some (.int (2 ^ k)), some (.int (2 ^ (k + 1) - 1)), some (.ref p), v7] ∧ Same H H' ∧ H' p = some (intL (unp (2 ^ (k + 1)) (2 ^ k) t i))) ⟨_, rfl, s1, hp⟩ (fun _ _ _ _ _ => trivial) ?_ ?_
    · rintro i v σ H2 H3 hi ⟨v7, rfl, s2, hp2⟩ ⟨rfl, rfl⟩
      walk_at "q"
      refine ⟨.inl ⟨rfl, _, SqL.of hp2⟩, ?_⟩
      walk_at "q"
      refine ⟨_, k + 1, rfl, rfl, ?_⟩
      walk_at "q"
      refine ⟨_, _, _, rfl, rfl, hp2, Nat.lt_of_le_of_lt (m := 1000) (by rw [List.length_map, unp_length]; omega) (by decide), ?_⟩
      walk_at "q"
      refine ⟨_, k + 1, rfl, rfl, ?_⟩
      walk_at "q"
      refine ⟨_, rfl, fun a o e => ?_, ?_⟩
      · rw [upd_ne (ne_of_none e np)]; exact s2 a o e
      · rw [upd_same]
        show _ = some (HO.lst _)
        rw [show unp (2 ^ (k + 1)) (2 ^ k) t (i + 1) = unp (2 ^ (k + 1)) (2 ^ k) t i ++ [(tAt (2 ^ (k + 1)) (2 ^ k) t i + 2 ^ k) % 2 ^ (k + 1) - 2 ^ k] from rfl, List.map_append]
        rfl
    · rintro σ H2 ⟨v7, rfl, s2, hp2⟩
      rw [Int.toNat_natCast] at hp2
      walk_at "q"
      exact h _ _ s2 hp2
end
end K20

set_option Elab.async false
set_option linter.all false
set_option maxRecDepth 100000
set_option maxHeartbeats 4000000
namespace K20
open PySem PySem.Spec PyProof.Rows L2
local macro_rules | `(tactic| walk_at "q1") => `(tactic| first
  | with_reducible refine r_seq ?_ | with_reducible refine r_asg ?_ | with_reducible refine r_name ?_ | with_reducible refine r_ret ?_ | with_reducible refine r_ifS ?_ | with_reducible refine r_next ?_ | with_reducible refine r_drop ?_
  | ((with_reducible show tVar _ _ _ _); refine ⟨_, rfl, ?_⟩) | with_reducible refine r_c ?_ | with_reducible refine r_op ?_ | with_reducible refine r_un ?_ | with_reducible refine r_I0 ?_ | with_reducible refine r_U ?_
  | with_reducible refine r_eqI ?_ | with_reducible refine r_neI ?_ | with_reducible refine r_neB ?_ | with_reducible refine r_cb ?_ | with_reducible refine r_cons ?_ | with_reducible refine r_nil ?_ | with_reducible refine r_test ?_ | with_reducible refine r_tB ?_
  | with_reducible refine r_bl ?_ | with_reducible refine r_not ?_ | with_reducible refine r_notV ?_ | with_reducible refine r_and ?_ | with_reducible refine r_or ?_ | with_reducible refine r_andV ?_ | with_reducible refine r_orV ?_ | with_reducible refine r_if ?_
  | with_reducible refine r_T ?_ | with_reducible refine r_F ?_ | with_reducible refine r_NT ?_ | with_reducible refine r_NF ?_ | with_reducible refine r_call ?_ | with_reducible refine r_meth ?_ | with_reducible refine r_int1 ?_ | with_reducible refine r_fld ?_
  | with_reducible refine r_tup ?_ | with_reducible refine r_lst ?_ | with_reducible refine r_par ?_ | with_reducible refine r_par3 ?_ | with_reducible refine r_two ?_ | with_reducible refine r_three ?_ | with_reducible refine r_abs ?_ | with_reducible refine r_max ?_
  | with_reducible refine r_cut ?_ | with_reducible refine r_lc ?_ | with_reducible refine r_lc2 ?_ | with_reducible refine r_mkB ?_ | with_reducible refine r_for ?_ | with_reducible refine r_iList ?_ | with_reducible refine r_iTup ?_ | with_reducible refine r_revL ?_ | with_reducible refine r_star ?_ | with_reducible refine r_bits ?_ | with_reducible refine r_iRng ?_ | with_reducible refine r_iEnum ?_ | with_reducible refine r_iZip ?_ | with_reducible refine r_sub ?_ | with_reducible refine r_sfld ?_ | with_reducible refine r_bm ?_
  | with_reducible refine r_methK ?_ | with_reducible refine r_methS ?_ | with_reducible refine r_make ?_ | with_reducible refine r_mod ?_ | with_reducible refine r_gtup ?_ | with_reducible refine r_gcons ?_ | with_reducible refine r_gnil ?_ | with_reducible refine r_slc ?_ | with_reducible refine r_part ?_ | with_reducible refine r_noPart ?_)
local macro_rules | `(tactic| walk_at "nw") => `(tactic| (intro p hp; generalize hu : upd _ p _ = H1; obtain ⟨s1, hp1⟩ := nwx hp hu; clear hu))
local macro_rules | `(tactic| walk_at "q") => `(tactic| repeat walk_at "q1")
section
variable {P : Program} {w : World} {K : Fr} {mg : Str → Option Value} {base : Heap}
/-! ### covers, polys, residues -/
/-- all but what stands at p is kept -/
def KpA (p : Addr) (H H' : Hp) : Prop := ∀ a o, a ≠ p → H a = some o → H' a = some o
theorem KpA.refl {p : Addr} {H : Hp} : KpA p H H := fun _ _ _ h => h
theorem KpA.trans {p : Addr} {H H1 H2 : Hp} (a : KpA p H H1) (b : KpA p H1 H2) : KpA p H H2 := fun x o n h => b x o n (a x o n h)
theorem KpA.of {p : Addr} {H H' : Hp} (s : Same H H') : KpA p H H' := fun a o _ h => s a o h
theorem KpA.upd {p : Addr} {H : Hp} {o : HO} : KpA p H (upd H p o) := fun a u n e => by rw [upd_ne n]; exact e
structure Cov where
  m : List Int
  y : Int
def CvAt (so : Addr) (c : Cov) (a : Addr) (H : Hp) : Prop := ∃ dx mp, H a = some (.ins 377 dx [("sizes", .ref so), ("body", .int c.y), ("_mask", .ref mp)]) ∧ H mp = some (intL c.m)
theorem CvAt.same {so : Addr} {c : Cov} {a : Addr} {H H' : Hp} (h : CvAt so c a H) (s : Same H H') : CvAt so c a H' := let ⟨d, m, e, f⟩ := h; ⟨d, m, s _ _ e, s _ _ f⟩
def spCover : Sp := fun vs H Q _ => ∃ (x dx so mk : Addr) (z : Sz) (ms : List Int) (y : Int), vs = [.ref x, .ref so, .ref mk, .int y] ∧ z.Ok ∧ H x = some (.ins 377 dx []) ∧ SzAt z so H ∧ H mk = some (intL ms) ∧ ms.length = z.n ∧
  ∀ H', KpA x H H' → CvAt so ⟨ms.map (· % z.q), y % z.q⟩ x H' → Q .non H'
theorem ne_ins {H : Hp} {a b : Addr} {o u : HO} (e : H a = some o) (f : H b = some u) (h : o ≠ u) : a ≠ b := fun z => h (Option.some.inj (by rw [← e, ← f, z]))
theorem ok_Cover (T : Txt K mg) (c_is_row : C8.Cal P w K mg base 1 "is_row" spIsRow []) (c_any_number : C8.Cal P w K mg base 1 "any_number" spAnyN []) (g_modulus : GMod P w K mg base) : C8.Mak P w K mg base 3 "Cover" 377 spCover [] := by
  have S : FnScope ["self", "sizes", "mask", "body", "at", "item", "modulus"] ["self", "sizes", "mask", "body"] (C8.fnScope (meth 20 0)) := C8.fnScope_by (by decide +kernel)
  refine mak_of T.f_Cover_init T.k_Cover T.g_Cover S (fun _ _ _ _ _ _ us hl => match us, hl with | [_, _, _, _], _ => rfl) (fun vs H Q E h => ?_) (fun cdv A outer s H vs Q E hr h => ?_)
  · obtain ⟨x, dx, so, mk, z, ms, y, rfl, _⟩ := h
    rfl
  · obtain ⟨x, dx, so, mk, z, ms, y, rfl, o, hx, hs, hm, hl, h⟩ := h
    refine ⟨_, (pss_cons (ps_if (pt_not (pt_val (C8.pe_c c_is_row hr (by decide) rfl (pa_cons (pv 2) (pa_cons (pe_fldK (K := K) rfl (pv 1) rfl) pa_nil))))) (pss_one ps_never) pss_nil)
      (pss_cons (ps_for PassesOwn.never rfl (pi_enum rfl T.z_enumerate (pa_cons (pv 2) pa_nil)) (pg_tupK (K := K) (n := 2) rfl rfl (pgs_cons (pg_name (i := 4) S.nd rfl (Or.inl rfl)) (pgs_cons (pg_name (i := 5) S.nd rfl (Or.inl rfl)) pgs_nil))) (pss_one (ps_if (pt_not (pt_val (C8.pe_c c_any_number hr (by decide) rfl (pa_cons (pv 5) pa_nil)))) (pss_one ps_never) pss_nil)))
      (pss_cons (ps_if (pt_not (pt_val (C8.pe_c c_any_number hr (by decide) rfl (pa_cons (pv 3) pa_nil)))) (pss_one ps_never) pss_nil)
      (pss_cons (ps_set (i := 6) S.nd rfl (Or.inr rfl) (pe_mod T g_modulus hr (pv 1)))
      (pss_cons (ps_fld (pv 0) (pv 1) rfl)
      (pss_cons (ps_fld (pv 0) (pe_op op_mod (pv 3) (pv 6)) rfl)
      (pss_one (ps_fld (pv 0) (pe_lc (own := [("item", 5)]) rfl S.nd (pi_listK (K := K) rfl (pv 2)) (blkOk_by (N := ["self", "sizes", "mask", "body", "at", "item", "modulus"]) (sc := C8.fnScope (meth 20 0)) (by decide +kernel)) (fun _ _ _ _ _ => (pg_name (i := 5) S.nd rfl (Or.inl rfl))) (fun _ _ _ _ _ => pts_nil) (fun _ _ _ _ _ => (pe_op op_mod (pv 5) (pv 6)))) rfl)))))))), ?_⟩
    have n8 := o.n8
    obtain ⟨ds, hs⟩ := hs
    have nm : mk ≠ x := ne_ins hm hx (fun e => by cases e)
    have ns : so ≠ x := ne_ins hs hx (fun e => by injection e with e; revert e; decide)
    walk_at "q"
    refine ⟨_, _, _, _, _, rfl, hs, T.c_Sizes, T.n_Sizes_length, rfl, ?_⟩
    walk_at "q"
    refine ⟨mk, _, by rw [← hl]; simp, hm, fun H1 s1 => ?_⟩
    walk_at "q"
    refine ⟨mk, _, rfl, SqL.of (s1 _ _ hm), ?_⟩
    refine for_it walk_enum (fun i σ H' => ∃ v4 v5, σ = [some (.ref x), some (.ref so), some (.ref mk), some (.int y), v4, v5, none] ∧ Same H H') ⟨_, _, rfl, s1⟩ (fun i σ H' _ ⟨_, _, _, s⟩ => SqL.of (s _ _ hm)) ?_ ?_
    · rintro i v σ H2 H3 hi ⟨v4, v5, rfl, s2⟩ ⟨Tp, y1, z1, rfl, hT, rfl, hy, hz⟩
      cases hy
      obtain ⟨b, hb1, rfl⟩ := lst_at hz
      refine ⟨_, _, rfl, SqT.of upd_same, rfl, ?_⟩
      walk_at "q"
      refine ⟨b, rfl, ?_⟩
      walk_at "q"
      exact ⟨_, _, rfl, s2.trans (same_upd hT)⟩
    · rintro σ H2 ⟨v4, v5, rfl, s2⟩
      walk_at "q"
      refine ⟨y, rfl, ?_⟩
      walk_at "q"
      refine ⟨_, _, _, rfl, (s2 _ _ hs), _, _, _, _, rfl, (s2 _ _ hs), rfl, ?_⟩
      walk_at "q"
      refine ⟨_, _, _, _, rfl, (s2 _ _ hx), T.c_Cover, T.n_Cover_sizes, (show (0 : Nat) < 1000 by decide), ?_⟩
      walk_at "q"
      refine r_I z.qpos ?_
      walk_at "q"
      refine ⟨_, _, _, _, rfl, upd_same, T.c_Cover, T.n_Cover_body, (show (1 : Nat) < 1000 by decide), ?_⟩
      walk_at "q"
      rw [upd_upd]
      generalize hu : upd H2 x _ = H3
      have k3 : KpA x H H3 := by rw [← hu]; exact (KpA.of s2).trans KpA.upd
      have h3 : H3 x = some (.ins 377 dx [("sizes", .ref so), ("body", .int (y % z.q))]) := by rw [← hu, upd_same]; rfl
      clear hu
      refine ⟨mk, rfl, ⟨_, SqL.of (k3 _ _ nm hm)⟩, ?_⟩
      intro D hD
      have nD : D ≠ x := fun e => by rw [e, h3] at hD; cases hD
      refine lc_inv walk_list hD (fun i acc H' => acc = ((ms.map (· % z.q)).take i).map V.int ∧ Same H3 H') ⟨rfl, Same.refl _⟩ (fun i acc H' o ⟨e, s⟩ => ⟨e, fun b u e => by rw [upd_ne (ne_of_none e hD)]; exact s b u e⟩) (fun i acc H' ⟨_, s⟩ => SqL.of (s _ _ (k3 _ _ nm hm))) (by rw [List.length_map]; omega) ?_ ?_
      · rintro i acc v H4 H5 hi hla ⟨e, s4⟩ hD2 ⟨rfl, hx5⟩ Kc kc
        obtain ⟨b, hb1, rfl⟩ := lst_at hx5
        walk_at "q"
        refine ⟨rfl, ?_⟩
        walk_at "q"
        refine r_I z.qpos ?_
        refine kc _ _ hD2 ⟨?_, s4⟩
        rw [e, List.take_add_one, List.getElem?_map, hb1, List.map_append]
        rfl
      · rintro acc H4 hla ⟨e, s4⟩ hD2
        walk_at "q"
        refine ⟨_, _, _, _, rfl, (s4 _ _ h3), T.c_Cover, T.n_Cover_mask, (show (2 : Nat) < 1000 by decide), ?_⟩
        walk_at "q"
        have e2 : acc = (ms.map (· % z.q)).map V.int := by rw [e, List.take_of_length_le (by simp)]
        refine h _ (k3.trans ((KpA.of s4).trans KpA.upd)) ⟨dx, D, ?_, ?_⟩
        · rw [upd_same]; rfl
        · rw [upd_ne nD, hD2, e2]; rfl
def spMask : Sp := fun vs H Q _ => ∃ (a so : Addr) (c : Cov), vs = [.ref a] ∧ CvAt so c a H ∧ ∀ r H', H r = none → Same H H' → H' r = some (intL c.m) → Q (.ref r) H'
theorem ok_mask (T : Txt K mg) : C8.Met P w K mg base 1 377 "mask" spMask [] := by
  have S : FnScope ["self"] ["self"] (C8.fnScope (meth 20 1)) := C8.fnScope_by (by decide +kernel)
  refine met_of T.f_Cover_mask T.c_Cover T.m_Cover_mask S (fun _ _ _ _ _ _ us hl => match us, hl with | [_], _ => rfl) (fun vs H Q E h => ?_) (fun cdv A outer s H vs Q E hr h => ?_)
  · obtain ⟨a, so, c, rfl, _⟩ := h
    rfl
  · obtain ⟨a, so, c, rfl, ⟨dx, mp, ha, hm⟩, h⟩ := h
    refine ⟨_, (pss_one (ps_ret (pe_callTy call_list_of rfl T.z_list (by decide +kernel) (pa_cons (pe_fldK (K := K) rfl (pv 0) rfl) pa_nil)))), ?_⟩
    walk_at "q"
    refine ⟨_, _, _, _, _, rfl, ha, T.c_Cover, T.n_Cover_mask, rfl, ?_⟩
    walk_at "q"
    refine ⟨mp, _, rfl, .inl (SqL.of hm), fun p np => ?_⟩
    generalize hu : upd _ p _ = H1
    obtain ⟨s1, hp⟩ := nwx np hu
    exact h p H1 np s1 hp
/-! residues -/
def mid (x q : Int) : Int := if q ≤ 2 * (x % q) then x % q - q else x % q
def spCent : Sp := fun vs H Q _ => ∃ (so : Addr) (z : Sz) (x : Int), vs = [.int x, .ref so] ∧ z.Ok ∧ SzAt z so H ∧ Q (.int (mid x z.q)) H
theorem ok_centered (T : Txt K mg) (g_modulus : GMod P w K mg base) : C8.Cal P w K mg base 3 "centered" spCent [] := by
  have S : FnScope ["value", "sizes", "residue"] ["value", "sizes"] (C8.fnScope (top 30)) := C8.fnScope_by (by decide +kernel)
  refine cal_of T.f_centered T.g_centered S (fun _ _ _ _ _ _ us hl => match us, hl with | [_, _], _ => rfl) (fun vs H Q E h => ?_) (fun cdv A outer s H vs Q E hr h => ?_)
  · obtain ⟨so, z, x, rfl, _⟩ := h
    rfl
  · obtain ⟨so, z, x, rfl, o, ⟨ds, hs⟩, h⟩ := h
    refine ⟨_, (pss_cons (ps_set (i := 2) S.nd rfl (Or.inl rfl) (pe_op op_mod (pv 0) (pe_mod T g_modulus hr (pv 1))))
      (pss_cons (ps_if (pt_cmpR op_ge (pv 2) (pe_op op_fdiv (pe_mod T g_modulus hr (pv 1)) pe_int) (nomark _)) (pss_one (ps_ret (pe_op op_sub (pv 2) (pe_mod T g_modulus hr (pv 1))))) pss_nil)
      (pss_one (ps_ret (pv 2))))), ?_⟩
    have q2 := Sz.qeven o
    walk_at "q"
    refine ⟨_, _, _, rfl, hs, _, _, _, _, rfl, hs, rfl, ?_⟩
    walk_at "q"
    refine r_I z.qpos ?_
    walk_at "q"
    refine ⟨_, _, _, rfl, hs, _, _, _, _, rfl, hs, rfl, ?_⟩
    walk_at "q"
    refine r_I ⟨by decide, by decide⟩ ?_
    walk_at "q"
    unfold mid at h
    refine r_ite (fun c => ?_) fun c => ?_
    · walk_at "q"
      refine ⟨_, _, _, rfl, hs, _, _, _, _, rfl, hs, rfl, ?_⟩
      walk_at "q"
      rw [if_pos (by omega)] at h
      exact h
    · walk_at "q"
      rw [if_neg (by omega)] at h
      exact h
def spDigits : Sp := fun vs H Q _ => ∃ (so : Addr) (z : Sz) (x : Int), vs = [.int x, .ref so] ∧ z.Ok ∧ SzAt z so H ∧ ∀ r H', H r = none → Same H H' → H' r = some (intL (digs z.B (x % z.q) z.l)) → Q (.ref r) H'
theorem ok_digits (T : Txt K mg) (g_modulus : GMod P w K mg base) : C8.Cal P w K mg base 3 "digits" spDigits [] := by
  have S : FnScope ["value", "sizes", "base", "left", "found", "_", "digit"] ["value", "sizes"] (C8.fnScope (top 31)) := C8.fnScope_by (by decide +kernel)
  refine cal_of T.f_digits T.g_digits S (fun _ _ _ _ _ _ us hl => match us, hl with | [_, _], _ => rfl) (fun vs H Q E h => ?_) (fun cdv A outer s H vs Q E hr h => ?_)
  · obtain ⟨so, z, x, rfl, _⟩ := h
    rfl
  · obtain ⟨so, z, x, rfl, o, ⟨ds, hs⟩, h⟩ := h
    refine ⟨_, (pss_cons (ps_set (i := 2) S.nd rfl (Or.inl rfl) (pe_fldK (K := K) rfl (pv 1) rfl))
      (pss_cons (ps_set (i := 3) S.nd rfl (Or.inl rfl) (pe_op op_mod (pv 0) (pe_mod T g_modulus hr (pv 1))))
      (pss_cons (ps_set (i := 4) S.nd rfl (Or.inl rfl) (pe_lst pa_nil))
      (pss_cons (ps_for PassesOwn.never rfl (pi_range1 rfl T.z_range (pa_cons (pe_fldK (K := K) rfl (pv 1) rfl) pa_nil)) (pg_name (i := 5) S.nd rfl (Or.inl rfl)) (pss_cons (ps_set (i := 6) S.nd rfl (Or.inl rfl) (pe_op op_mod (pv 3) (pv 2)))
      (pss_cons (ps_if (pt_cmpR op_ge (pv 6) (pe_op op_fdiv (pv 2) pe_int) (nomark _)) (pss_one (ps_set (i := 6) S.nd rfl (Or.inl rfl) (pe_op op_sub (pv 6) (pv 2)))) pss_nil)
      (pss_cons (ps_expr (pe_bm PySem.F.plainAttrs_list PySem.F.slot_list_append PySem.F.type_list_append mt_append (pv 4) (pa_cons (pv 6) pa_nil)))
      (pss_one (ps_set (i := 3) S.nd rfl (Or.inl rfl) (pe_op op_fdiv (pe_op op_sub (pv 3) (pv 6)) (pv 2))))))))
      (pss_one (ps_ret (pv 4))))))), ?_⟩
    have l8 := o.l8
    have bp := z.Bpos
    have ble := Sz.Ble o
    walk_at "q"
    refine ⟨_, _, _, _, _, rfl, hs, T.c_Sizes, T.n_Sizes_base, rfl, ?_⟩
    walk_at "q"
    refine ⟨_, _, _, rfl, hs, _, _, _, _, rfl, hs, rfl, ?_⟩
    walk_at "q"
    refine r_I z.qpos ?_
    walk_at "q"
    refine ⟨by decide, ?_⟩
    walk_at "nw"
    rename_i p np H1 s1 hp
    walk_at "q"
    refine ⟨_, _, _, _, _, rfl, (s1 _ _ hs), T.c_Sizes, T.n_Sizes_places, rfl, ?_⟩
    walk_at "q"
    refine ⟨_, rfl, by omega, by omega, ?_⟩
    refine for_it (walk_range (n := (z.l : Int).toNat)) (fun i σ H' => ∃ v5 v6, σ = [some (.int x), some (.ref so), some (.int z.B), some (.int (leftAt z.B (x % z.q) i)), some (.ref p), v5, v6] ∧ Same H H' ∧ H' p = some (intL (digs z.B (x % z.q) i))) ⟨_, _, rfl, s1, hp⟩ (fun _ _ _ _ _ => trivial) ?_ ?_
    · rintro i v σ H2 H3 hi ⟨v5, v6, rfl, s2, hp2⟩ ⟨rfl, rfl⟩
      walk_at "q"
      refine r_I bp ?_
      walk_at "q"
      refine r_I ⟨by decide, by decide⟩ ?_
      walk_at "q"
      have cut : ∀ (d : Int), d = dig z.B (leftAt z.B (x % z.q) i) → ∀ v5 v6, (∃ v5' v6', [some (V.int x), some (.ref so), some (.int z.B), some (.int ((leftAt z.B (x % z.q) i - d) / z.B)), some (.ref p), v5, v6] = [some (.int x), some (.ref so), some (.int z.B), some (.int (leftAt z.B (x % z.q) (i + 1))), some (.ref p), v5', v6'] ∧ Same H (upd H3 p (.lst (List.map V.int (digs z.B (x % z.q) i) ++ [.int d]))) ∧ upd H3 p (.lst (List.map V.int (digs z.B (x % z.q) i) ++ [.int d])) p = some (intL (digs z.B (x % z.q) (i + 1)))) := by
        intro d hd v5 v6
        refine ⟨v5, v6, by rw [hd]; rfl, fun a u e => ?_, ?_⟩
        · rw [upd_ne (ne_of_none e np)]; exact s2 a u e
        · rw [upd_same, hd]
          show _ = some (HO.lst (List.map V.int (digs z.B (x % z.q) i ++ [dig z.B (leftAt z.B (x % z.q) i)])))
          rw [List.map_append]; rfl
      refine r_ite (fun c => ?_) fun c => ?_
      · walk_at "q"
        refine ⟨.inl ⟨rfl, _, SqL.of hp2⟩, ?_⟩
        walk_at "q"
        refine ⟨_, _, _, rfl, rfl, hp2, Nat.lt_of_le_of_lt (m := 1000) (by rw [List.length_map, digs_length]; omega) (by decide), ?_⟩
        walk_at "q"
        refine r_I ⟨by omega, by omega⟩ ?_
        walk_at "q"
        exact cut _ (by unfold dig; rw [if_pos c]) _ _
      · walk_at "q"
        refine ⟨.inl ⟨rfl, _, SqL.of hp2⟩, ?_⟩
        walk_at "q"
        refine ⟨_, _, _, rfl, rfl, hp2, Nat.lt_of_le_of_lt (m := 1000) (by rw [List.length_map, digs_length]; omega) (by decide), ?_⟩
        walk_at "q"
        refine r_I ⟨by omega, by omega⟩ ?_
        walk_at "q"
        exact cut _ (by unfold dig; rw [if_neg c]) _ _
    · rintro σ H2 ⟨v5, v6, rfl, s2, hp2⟩
      rw [Int.toNat_natCast] at hp2
      walk_at "q"
      exact h _ _ np s2 hp2
end
end K20

set_option Elab.async false
set_option linter.all false
set_option maxRecDepth 100000
set_option maxHeartbeats 4000000
namespace K20
open PySem PySem.Spec PyProof.Rows L2
local macro_rules | `(tactic| walk_at "q1") => `(tactic| first
  | with_reducible refine r_seq ?_ | with_reducible refine r_asg ?_ | with_reducible refine r_name ?_ | with_reducible refine r_ret ?_ | with_reducible refine r_ifS ?_ | with_reducible refine r_next ?_ | with_reducible refine r_drop ?_
  | ((with_reducible show tVar _ _ _ _); refine ⟨_, rfl, ?_⟩) | with_reducible refine r_c ?_ | with_reducible refine r_op ?_ | with_reducible refine r_un ?_ | with_reducible refine r_I0 ?_ | with_reducible refine r_U ?_
  | with_reducible refine r_eqI ?_ | with_reducible refine r_neI ?_ | with_reducible refine r_neB ?_ | with_reducible refine r_cb ?_ | with_reducible refine r_cons ?_ | with_reducible refine r_nil ?_ | with_reducible refine r_test ?_ | with_reducible refine r_tB ?_
  | with_reducible refine r_bl ?_ | with_reducible refine r_not ?_ | with_reducible refine r_notV ?_ | with_reducible refine r_and ?_ | with_reducible refine r_or ?_ | with_reducible refine r_andV ?_ | with_reducible refine r_orV ?_ | with_reducible refine r_if ?_
  | with_reducible refine r_T ?_ | with_reducible refine r_F ?_ | with_reducible refine r_NT ?_ | with_reducible refine r_NF ?_ | with_reducible refine r_call ?_ | with_reducible refine r_meth ?_ | with_reducible refine r_int1 ?_ | with_reducible refine r_fld ?_
  | with_reducible refine r_tup ?_ | with_reducible refine r_lst ?_ | with_reducible refine r_par ?_ | with_reducible refine r_par3 ?_ | with_reducible refine r_two ?_ | with_reducible refine r_three ?_ | with_reducible refine r_abs ?_ | with_reducible refine r_max ?_
  | with_reducible refine r_cut ?_ | with_reducible refine r_lc ?_ | with_reducible refine r_lc2 ?_ | with_reducible refine r_mkB ?_ | with_reducible refine r_for ?_ | with_reducible refine r_iList ?_ | with_reducible refine r_iTup ?_ | with_reducible refine r_revL ?_ | with_reducible refine r_star ?_ | with_reducible refine r_bits ?_ | with_reducible refine r_iRng ?_ | with_reducible refine r_iEnum ?_ | with_reducible refine r_iZip ?_ | with_reducible refine r_sub ?_ | with_reducible refine r_sfld ?_ | with_reducible refine r_bm ?_
  | with_reducible refine r_methK ?_ | with_reducible refine r_methS ?_ | with_reducible refine r_make ?_ | with_reducible refine r_mod ?_ | with_reducible refine r_gtup ?_ | with_reducible refine r_gcons ?_ | with_reducible refine r_gnil ?_ | with_reducible refine r_slc ?_ | with_reducible refine r_part ?_ | with_reducible refine r_noPart ?_)
local macro_rules | `(tactic| walk_at "nw") => `(tactic| (intro p hp; generalize hu : upd _ p _ = H1; obtain ⟨s1, hp1⟩ := nwx hp hu; clear hu))
local macro_rules | `(tactic| walk_at "q") => `(tactic| repeat walk_at "q1")
section
variable {P : Program} {w : World} {K : Fr} {mg : Str → Option Value} {base : Heap}
/-! ### polys; covers compared; switches -/
def spPoly : Sp := fun vs H Q _ => ∃ (x dx so mk : Addr) (z : Sz) (ms : List Int), vs = [.ref x, .ref so, .ref mk] ∧ z.Ok ∧ H x = some (.ins 576 dx []) ∧ SzAt z so H ∧ H mk = some (intL ms) ∧ ms.length = z.m ∧
  ∀ H', KpA x H H' → Q .non H'
theorem ok_Poly (T : Txt K mg) (c_is_row : C8.Cal P w K mg base 1 "is_row" spIsRow []) (c_any_number : C8.Cal P w K mg base 1 "any_number" spAnyN []) (g_modulus : GMod P w K mg base) : C8.Mak P w K mg base 3 "Poly" 576 spPoly [] := by
  have S : FnScope ["self", "sizes", "numbers", "at", "item", "modulus"] ["self", "sizes", "numbers"] (C8.fnScope (meth 41 0)) := C8.fnScope_by (by decide +kernel)
  refine mak_of T.f_Poly_init T.k_Poly T.g_Poly S (fun _ _ _ _ _ _ us hl => match us, hl with | [_, _, _], _ => rfl) (fun vs H Q E h => ?_) (fun cdv A outer s H vs Q E hr h => ?_)
  · obtain ⟨x, dx, so, mk, z, ms, rfl, _⟩ := h
    rfl
  · obtain ⟨x, dx, so, mk, z, ms, rfl, o, hx, hs, hm, hl, h⟩ := h
    refine ⟨_, (pss_cons (ps_if (pt_not (pt_val (C8.pe_c c_is_row hr (by decide) rfl (pa_cons (pv 2) (pa_cons (pe_fldK (K := K) rfl (pv 1) rfl) pa_nil))))) (pss_one ps_never) pss_nil)
      (pss_cons (ps_for PassesOwn.never rfl (pi_enum rfl T.z_enumerate (pa_cons (pv 2) pa_nil)) (pg_tupK (K := K) (n := 2) rfl rfl (pgs_cons (pg_name (i := 3) S.nd rfl (Or.inl rfl)) (pgs_cons (pg_name (i := 4) S.nd rfl (Or.inl rfl)) pgs_nil))) (pss_one (ps_if (pt_not (pt_val (C8.pe_c c_any_number hr (by decide) rfl (pa_cons (pv 4) pa_nil)))) (pss_one ps_never) pss_nil)))
      (pss_cons (ps_set (i := 5) S.nd rfl (Or.inr rfl) (pe_mod T g_modulus hr (pv 1)))
      (pss_cons (ps_fld (pv 0) (pv 1) rfl)
      (pss_one (ps_fld (pv 0) (pe_lc (own := [("item", 4)]) rfl S.nd (pi_listK (K := K) rfl (pv 2)) (blkOk_by (N := ["self", "sizes", "numbers", "at", "item", "modulus"]) (sc := C8.fnScope (meth 41 0)) (by decide +kernel)) (fun _ _ _ _ _ => (pg_name (i := 4) S.nd rfl (Or.inl rfl))) (fun _ _ _ _ _ => pts_nil) (fun _ _ _ _ _ => (pe_op op_mod (pv 4) (pv 5)))) rfl)))))), ?_⟩
    have m_ := o.m_
    obtain ⟨ds, hs⟩ := hs
    have nm : mk ≠ x := ne_ins hm hx (fun e => by cases e)
    have ns : so ≠ x := ne_ins hs hx (fun e => by injection e with e; revert e; decide)
    walk_at "q"
    refine ⟨_, _, _, _, _, rfl, hs, T.c_Sizes, T.n_Sizes_ring, rfl, ?_⟩
    walk_at "q"
    refine ⟨mk, _, by rw [← hl]; simp, hm, fun H1 s1 => ?_⟩
    walk_at "q"
    refine ⟨mk, _, rfl, SqL.of (s1 _ _ hm), ?_⟩
    refine for_it walk_enum (fun i σ H' => ∃ v4 v5, σ = [some (.ref x), some (.ref so), some (.ref mk), v4, v5, none] ∧ Same H H') ⟨_, _, rfl, s1⟩ (fun i σ H' _ ⟨_, _, _, s⟩ => SqL.of (s _ _ hm)) ?_ ?_
    · rintro i v σ H2 H3 hi ⟨v4, v5, rfl, s2⟩ ⟨Tp, y1, z1, rfl, hT, rfl, hy, hz⟩
      cases hy
      obtain ⟨b, hb1, rfl⟩ := lst_at hz
      refine ⟨_, _, rfl, SqT.of upd_same, rfl, ?_⟩
      walk_at "q"
      refine ⟨b, rfl, ?_⟩
      walk_at "q"
      exact ⟨_, _, rfl, s2.trans (same_upd hT)⟩
    · rintro σ H2 ⟨v4, v5, rfl, s2⟩
      walk_at "q"
      refine ⟨_, _, _, rfl, (s2 _ _ hs), _, _, _, _, rfl, (s2 _ _ hs), rfl, ?_⟩
      walk_at "q"
      refine ⟨_, _, _, _, rfl, (s2 _ _ hx), T.c_Poly, T.n_Poly_sizes, (show (0 : Nat) < 1000 by decide), ?_⟩
      walk_at "q"
      generalize hu : upd H2 x _ = H3
      have k3 : KpA x H H3 := by rw [← hu]; exact (KpA.of s2).trans KpA.upd
      have h3 : H3 x = some (.ins 576 dx [("sizes", .ref so)]) := by rw [← hu, upd_same]; rfl
      clear hu
      refine ⟨mk, rfl, ⟨_, SqL.of (k3 _ _ nm hm)⟩, ?_⟩
      intro D hD
      refine lc_inv walk_list hD (fun i acc H' => Same H3 H') (Same.refl _) (fun i acc H' o s => fun b u e => by rw [upd_ne (ne_of_none e hD)]; exact s b u e) (fun i acc H' s => SqL.of (s _ _ (k3 _ _ nm hm))) (by rw [List.length_map]; omega) ?_ ?_
      · rintro i acc v H4 H5 hi hla s4 hD2 ⟨rfl, hx5⟩ Kc kc
        obtain ⟨b, hb1, rfl⟩ := lst_at hx5
        walk_at "q"
        refine ⟨rfl, ?_⟩
        walk_at "q"
        refine r_I z.qpos ?_
        exact kc _ _ hD2 s4
      · rintro acc H4 hla s4 hD2
        walk_at "q"
        refine ⟨_, _, _, _, rfl, (s4 _ _ h3), T.c_Poly, T.n_Poly_numbers, (show (1 : Nat) < 1000 by decide), ?_⟩
        walk_at "q"
        exact h _ (k3.trans ((KpA.of s4).trans KpA.upd))
def RCov (a b : Addr) (H : Hp) : Prop := ∃ so z c, SzAt z so H ∧ CvAt so c a H ∧ CvAt so c b H
theorem mon_RCov (a b : Addr) (H H' : Hp) (e : Ext H H') (r : RCov a b H) : RCov a b H' := let ⟨so, z, c, h1, h2, h3⟩ := r; ⟨so, z, c, h1.same e, h2.same e, h3.same e⟩
theorem prs_ints (ns : List Int) (H : Hp) : Prs DFlat (ns.map V.int) (ns.map V.int) H := by
  refine ⟨rfl, fun i x y h1 h2 => ?_⟩
  rw [h1] at h2
  obtain ⟨b, _, rfl⟩ := lst_at h1
  cases h2
  exact ⟨rfl, rfl, by simp [eqV]⟩
theorem ok_Cover_eq (T : Txt K mg) (c_Sizes_eq : ∃ fd, FnOk P w K mg base C8.CX0 1 256 fd ["self", "other"] (spEq REqSz) ∧ Binds K fd ["self", "other"] []) : ∃ fd, FnOk P w K mg base C8.CX0 2 347 fd ["self", "other"] (spEq RCov) ∧ Binds K fd ["self", "other"] [] := by
  obtain ⟨fd1, F1, b1⟩ := c_Sizes_eq
  have S : FnScope ["self", "other"] ["self", "other"] (C8.fnScope (meth 20 9)) := C8.fnScope_by (by decide +kernel)
  refine fn_of_df T.f_Cover_eq S (fun _ _ _ _ _ _ us hl => match us, hl with | [_, _], _ => rfl) (fun vs H Q E h => ?_) (fun cdv A outer s H vs Q E hr h => ?_)
  · obtain ⟨a, b, rfl, _⟩ := h
    rfl
  · obtain ⟨a, b, rfl, ⟨so, z, c, hs, ⟨d1, m1, ha, hm1⟩, ⟨d2, m2, hb, hm2⟩⟩, h⟩ := h
    refine ⟨_, (pss_one (ps_ret (pe_and (pe_callB (call_isiK (K := K) rfl) rfl T.z_isinstance (by decide +kernel) (pa_cons (pv 1) (pa_cons (pe_glob (v := .ref 377) rfl T.g_Cover rfl) pa_nil))) (pe_and (pe_cmpR (op_eqG (rcG_ins (E := C8.E0) F1 T.e_Sizes.1 T.e_Sizes.2 b1 (fun _ _ _ _ _ _ _ h => h.elim)) (hr.mono (by decide))) (pe_fldK (K := K) rfl (pv 0) rfl) (pe_fldK (K := K) rfl (pv 1) rfl) (nomark _)) (pe_and (pe_cmpR (op_eqG (rcG_list mon_flat eqG_flat) (hr.mono (by decide))) (pe_fldK (K := K) rfl (pv 0) rfl) (pe_fldK (K := K) rfl (pv 1) rfl) (nomark _)) (pe_one (pe_cmpR op_eq (pe_fldK (K := K) rfl (pv 0) rfl) (pe_fldK (K := K) rfl (pv 1) rfl) (nomark _)))))))), ?_⟩
    obtain ⟨ds, hs'⟩ := id hs
    walk_at "q"
    refine r_isO T.i_Cover hb ?_
    walk_at "q"
    refine ⟨_, _, _, _, _, rfl, ha, T.c_Cover, T.n_Cover_sizes, rfl, ?_⟩
    walk_at "q"
    refine ⟨_, _, _, _, _, rfl, hb, T.c_Cover, T.n_Cover_sizes, rfl, ?_⟩
    walk_at "q"
    refine ⟨⟨_, _, _, _, _, _, rfl, rfl, hs', hs', z, hs, hs⟩, fun H1 e1 => ?_⟩
    walk_at "q"
    refine ⟨_, _, _, _, _, rfl, (e1 _ _ ha), T.c_Cover, T.n_Cover_mask, rfl, ?_⟩
    walk_at "q"
    refine ⟨_, _, _, _, _, rfl, (e1 _ _ hb), T.c_Cover, T.n_Cover_mask, rfl, ?_⟩
    walk_at "q"
    refine ⟨⟨_, _, _, _, rfl, rfl, e1 _ _ hm1, e1 _ _ hm2, prs_ints _ _⟩, fun H2 e2 => ?_⟩
    walk_at "q"
    refine ⟨_, _, _, _, _, rfl, (e2 _ _ (e1 _ _ ha)), T.c_Cover, T.n_Cover_body, rfl, ?_⟩
    walk_at "q"
    refine ⟨_, _, _, _, _, rfl, (e2 _ _ (e1 _ _ hb)), T.c_Cover, T.n_Cover_body, rfl, ?_⟩
    walk_at "q"
    show Q (.bl (decide _)) H2
    rw [decide_eq_true rfl]
    exact h H2 (e1.trans e2)
/-- a list of covers -/
def CvsAt (so : Addr) (cs : List Cov) (cl : Addr) (H : Hp) : Prop := ∃ as : List Addr, H cl = some (refL as) ∧ as.length = cs.length ∧ ∀ (i : Nat) a c, as[i]? = some a → cs[i]? = some c → CvAt so c a H
theorem CvsAt.same {so : Addr} {cs : List Cov} {a : Addr} {H H' : Hp} (h : CvsAt so cs a H) (s : Same H H') : CvsAt so cs a H' := let ⟨as, e, f, g⟩ := h; ⟨as, s _ _ e, f, fun i a c h1 h2 => (g i a c h1 h2).same s⟩
def lanes (z : Sz) (cs : List Cov) : List Int := cs.map fun c => packG (2 ^ z.lane) (c.m ++ [c.y])
structure SwAt (so : Addr) (z : Sz) (cs : List Cov) (wd : Nat) (a : Addr) (H : Hp) : Prop where
  ex : ∃ dx cl pl, H a = some (.ins 621 dx [("sizes", .ref so), ("width", .int wd), ("_covers", .ref cl), ("_lane", .int z.lane), ("_packed", .ref pl)]) ∧ CvsAt so cs cl H ∧ H pl = some (intL (lanes z cs))
  sz : SzAt z so H
theorem SwAt.same {so : Addr} {z : Sz} {wd : Nat} {cs : List Cov} {a : Addr} {H H' : Hp} (h : SwAt so z cs wd a H) (s : Same H H') : SwAt so z cs wd a H' := let ⟨⟨dx, cl, pl, e, f, g⟩, k⟩ := h; ⟨⟨dx, cl, pl, s _ _ e, f.same s, s _ _ g⟩, k.same s⟩
def RSw (a b : Addr) (H : Hp) : Prop := ∃ so z cs wd, SwAt so z cs wd a H ∧ SwAt so z cs wd b H
theorem prs_cov {so : Addr} {z : Sz} {cs : List Cov} {as bs : List Addr} {H : Hp} (hz : SzAt z so H) (l1 : as.length = cs.length) (l2 : bs.length = cs.length) (g1 : ∀ (i : Nat) a c, as[i]? = some a → cs[i]? = some c → CvAt so c a H) (g2 : ∀ (i : Nat) a c, bs[i]? = some a → cs[i]? = some c → CvAt so c a H) :
    Prs (DIns 377 RCov) (as.map V.ref) (bs.map V.ref) H := by
  refine ⟨by simp [l1, l2], fun i x y h1 h2 => ?_⟩
  rw [List.getElem?_map] at h1 h2
  obtain ⟨a, ha, rfl⟩ := Option.map_eq_some_iff.mp h1
  obtain ⟨b, hb, rfl⟩ := Option.map_eq_some_iff.mp h2
  have hi : i < cs.length := by rw [← l1]; exact (List.getElem?_eq_some_iff.mp ha).1
  have hc : cs[i]? = some cs[i] := List.getElem?_eq_getElem hi
  have r1 := g1 i a _ ha hc
  have r2 := g2 i b _ hb hc
  obtain ⟨d1, m1, e1, f1⟩ := id r1
  obtain ⟨d2, m2, e2, f2⟩ := id r2
  exact ⟨a, b, _, _, _, _, rfl, rfl, e1, e2, so, z, _, hz, r1, r2⟩
theorem ok_Switch_eq (T : Txt K mg) (c_Sizes_eq : ∃ fd, FnOk P w K mg base C8.CX0 1 256 fd ["self", "other"] (spEq REqSz) ∧ Binds K fd ["self", "other"] []) (c_Cover_eq : ∃ fd, FnOk P w K mg base C8.CX0 2 347 fd ["self", "other"] (spEq RCov) ∧ Binds K fd ["self", "other"] []) :
    ∃ fd, FnOk P w K mg base C8.CX0 4 618 fd ["self", "other"] (spEq RSw) ∧ Binds K fd ["self", "other"] [] := by
  obtain ⟨fd1, F1, b1⟩ := c_Sizes_eq
  obtain ⟨fd2, F2, b2⟩ := c_Cover_eq
  have S : FnScope ["self", "other"] ["self", "other"] (C8.fnScope (meth 43 4)) := C8.fnScope_by (by decide +kernel)
  refine fn_of_df T.f_Switch_eq S (fun _ _ _ _ _ _ us hl => match us, hl with | [_, _], _ => rfl) (fun vs H Q E h => ?_) (fun cdv A outer s H vs Q E hr h => ?_)
  · obtain ⟨a, b, rfl, _⟩ := h
    rfl
  · obtain ⟨a, b, rfl, ⟨so, z, cs, wd, A1, B1⟩, h⟩ := h
    obtain ⟨d1, cl1, pl1, ha, ca, _⟩ := A1.ex
    obtain ⟨d2, cl2, pl2, hb, cb, _⟩ := B1.ex
    have hs := A1.sz
    obtain ⟨ds, hs'⟩ := id hs
    refine ⟨_, (pss_cons (ps_if (pt_not (pt_val (pe_callB (call_isiK (K := K) rfl) rfl T.z_isinstance (by decide +kernel) (pa_cons (pv 1) (pa_cons (pe_glob (v := .ref 621) rfl T.g_Switch rfl) pa_nil))))) (pss_one (ps_ret pe_bl)) pss_nil)
      (pss_one (ps_ret (pe_and (pe_cmpR (op_eqG (rcG_ins (E := C8.E0) F1 T.e_Sizes.1 T.e_Sizes.2 b1 (fun _ _ _ _ _ _ _ h => h.elim)) (hr.mono (by decide))) (pe_fldK (K := K) rfl (pv 0) rfl) (pe_fldK (K := K) rfl (pv 1) rfl) (nomark _)) (pe_and (pe_cmpR op_eq (pe_fldK (K := K) rfl (pv 0) rfl) (pe_fldK (K := K) rfl (pv 1) rfl) (nomark _)) (pe_one (pe_cmpR (op_eqG (rcG_list (mon_ins mon_RCov) (eqG_ins (E := C8.E0) F2 T.e_Cover.1 T.e_Cover.2 b2 (fun _ _ _ _ _ _ _ h => h.elim))) (hr.mono (by decide))) (pe_fldK (K := K) rfl (pv 0) rfl) (pe_fldK (K := K) rfl (pv 1) rfl) (nomark _)))))))), ?_⟩
    walk_at "q"
    refine r_isO T.i_Switch hb ?_
    walk_at "q"
    refine ⟨_, _, _, _, _, rfl, ha, T.c_Switch, T.n_Switch_sizes, rfl, ?_⟩
    walk_at "q"
    refine ⟨_, _, _, _, _, rfl, hb, T.c_Switch, T.n_Switch_sizes, rfl, ?_⟩
    walk_at "q"
    refine ⟨⟨_, _, _, _, _, _, rfl, rfl, hs', hs', z, hs, hs⟩, fun H1 e1 => ?_⟩
    walk_at "q"
    refine ⟨_, _, _, _, _, rfl, (e1 _ _ ha), T.c_Switch, T.n_Switch_width, rfl, ?_⟩
    walk_at "q"
    refine ⟨_, _, _, _, _, rfl, (e1 _ _ hb), T.c_Switch, T.n_Switch_width, rfl, ?_⟩
    walk_at "q"
    refine r_pos rfl ?_
    walk_at "q"
    refine ⟨_, _, _, _, _, rfl, (e1 _ _ ha), T.c_Switch, T.n_Switch_covers, rfl, ?_⟩
    walk_at "q"
    refine ⟨_, _, _, _, _, rfl, (e1 _ _ hb), T.c_Switch, T.n_Switch_covers, rfl, ?_⟩
    walk_at "q"
    obtain ⟨as1, q1, l1, g1⟩ := ca.same e1
    obtain ⟨as2, q2, l2, g2⟩ := cb.same e1
    refine ⟨⟨_, _, _, _, rfl, rfl, q1, q2, prs_cov (hs.same e1) l1 l2 g1 g2⟩, fun H2 e2 => ?_⟩
    exact h H2 (e1.trans e2)
/-! bits of the lane -/
theorem intBits_le {x : Int} {n : Nat} (h : x.natAbs < 2 ^ n) (h0 : 0 < n) : Builtin.Int.intBits x ≤ n := by
  unfold Builtin.Int.intBits
  have := PySem.Flt.log2_lt_of h0 h
  split <;> omega
theorem lt_intBits {x : Int} (h : 0 ≤ x) : x < 2 ^ Builtin.Int.intBits x := by
  unfold Builtin.Int.intBits
  have e : ∀ k : Nat, ((2 ^ k : Nat) : Int) = (2 : Int) ^ k := fun k => by simp
  split
  · rename_i c
    have : x = 0 := by
      have := c
      simp at this
      omega
    subst this
    decide
  · have := @Nat.lt_log2_self x.natAbs
    rw [← e]
    omega
theorem Sz.mostle {z : Sz} (o : z.Ok) : 0 ≤ z.most ∧ z.q ≤ z.most ∧ z.most < 2 ^ 170 := by
  have bp := z.Bpos
  have bl := Sz.Ble o
  have qp := z.qpos
  have ql := Sz.qle o
  have l1 := o.l1
  have l8 := o.l8
  have hm : (32 * (z.l : Int) * z.B) ≤ 32 * 8 * 65536 := Int.mul_le_mul (by omega) bl (by omega) (by omega)
  have hm0 : 32 * 1 * 1 ≤ (32 * (z.l : Int) * z.B) := Int.mul_le_mul (by omega) (by omega) (by omega) (by omega)
  have h1 : 1 * z.q ≤ 32 * (z.l : Int) * z.B * z.q := Int.mul_le_mul_of_nonneg_right (by omega) (by omega)
  have h2 : 32 * (z.l : Int) * z.B * z.q ≤ 32 * 8 * 65536 * 2 ^ 128 := Int.mul_le_mul hm ql (by omega) (by omega)
  unfold Sz.most
  refine ⟨by omega, by omega, Int.lt_of_le_of_lt h2 (by decide)⟩
theorem Sz.lane_le {z : Sz} (o : z.Ok) : z.lane ≤ 171 := by
  obtain ⟨a, b, c⟩ := Sz.mostle o
  have := intBits_le (n := 170) (natAbs_lt a c) (by decide)
  unfold Sz.lane
  omega
theorem Sz.q_lane {z : Sz} (o : z.Ok) : z.q ≤ 2 ^ z.lane ∧ z.most < 2 ^ (z.lane - 1) := by
  obtain ⟨a, b, c⟩ := Sz.mostle o
  have h := lt_intBits a
  have e : z.lane - 1 = Builtin.Int.intBits z.most := by unfold Sz.lane; omega
  have e2 : (2 : Int) ^ z.lane = 2 ^ Builtin.Int.intBits z.most * 2 := by unfold Sz.lane; rw [Int.pow_succ]
  rw [e, e2]
  omega
/-- a cover in bounds -/
structure Cov.Ok (c : Cov) (z : Sz) : Prop where
  len : c.m.length = z.n
  mb : ∀ x ∈ c.m, 0 ≤ x ∧ x < z.q
  yb : 0 ≤ c.y ∧ c.y < z.q
theorem Cov.Ok.row {c : Cov} {z : Sz} (h : c.Ok z) (o : z.Ok) : ∀ x ∈ c.m ++ [c.y], 0 ≤ x ∧ x < 2 ^ z.lane := by
  intro x hx
  have := (Sz.q_lane o).1
  rcases List.mem_append.mp hx with q | q
  · obtain ⟨a, b⟩ := h.mb x q
    exact ⟨a, by omega⟩
  · rw [List.mem_singleton.mp q]
    obtain ⟨a, b⟩ := h.yb
    exact ⟨a, by omega⟩
def spSwitch : Sp := fun vs H Q _ => ∃ (x dx so cl : Addr) (z : Sz) (wd : Nat) (cs : List Cov), vs = [.ref x, .ref so, .int wd, .ref cl] ∧ z.Ok ∧ H x = some (.ins 621 dx []) ∧ SzAt z so H ∧ CvsAt so cs cl H ∧ cs.length ≤ 1000 ∧ (∀ c ∈ cs, c.Ok z) ∧
  ∀ H', KpA x H H' → SwAt so z cs wd x H' → Q .non H'
theorem ref_at {bs : List Addr} {i : Nat} {x : V} (h : (bs.map V.ref)[i]? = some x) : ∃ b, bs[i]? = some b ∧ x = .ref b := by
  rw [List.getElem?_map] at h
  cases e : bs[i]? with
  | none => rw [e] at h; cases h
  | some b => rw [e] at h; exact ⟨b, rfl, (Option.some.inj h).symm⟩
theorem CvAt.kp {so p : Addr} {c : Cov} {a : Addr} {H H' : Hp} (h : CvAt so c a H) (s : KpA p H H') {C dx : Addr} {fs : List (Str × V)} (hp : H p = some (.ins C dx fs)) (ne : C ≠ 377) : CvAt so c a H' := by
  obtain ⟨d, m, e, f⟩ := h
  exact ⟨d, m, s _ _ (ne_ins e hp fun q => by injection q with q; exact ne q.symm) e, s _ _ (ne_ins f hp fun q => by cases q) f⟩
theorem ok_Switch (T : Txt K mg) (c_lane_width : C8.Cal P w K mg base 3 "lane_width" spLane []) (c_packed : C8.Cal P w K mg base 1 "packed" spPacked []) (c_mask : C8.Met P w K mg base 1 377 "mask" spMask []) : C8.Mak P w K mg base 4 "Switch" 621 spSwitch [] := by
  have S : FnScope ["self", "sizes", "width", "covers", "cover"] ["self", "sizes", "width", "covers"] (C8.fnScope (meth 43 0)) := C8.fnScope_by (by decide +kernel)
  refine mak_of T.f_Switch_init T.k_Switch T.g_Switch S (fun _ _ _ _ _ _ us hl => match us, hl with | [_, _, _, _], _ => rfl) (fun vs H Q E h => ?_) (fun cdv A outer s H vs Q E hr h => ?_)
  · obtain ⟨x, dx, so, cl, z, wd, cs, rfl, _⟩ := h
    rfl
  · obtain ⟨x, dx, so, cl, z, wd, cs, rfl, o, hx, hs, hc, hl, hok, h⟩ := h
    refine ⟨_, (pss_cons (ps_fld (pv 0) (pv 1) rfl)
      (pss_cons (ps_fld (pv 0) (pv 2) rfl)
      (pss_cons (ps_fld (pv 0) (pe_callTy call_list_of rfl T.z_list (by decide +kernel) (pa_cons (pv 3) pa_nil)) rfl)
      (pss_cons (ps_fld (pv 0) (C8.pe_c c_lane_width hr (by decide) rfl (pa_cons (pv 1) pa_nil)) rfl)
      (pss_one (ps_fld (pv 0) (pe_lc (own := [("cover", 4)]) rfl S.nd (pi_listK (K := K) rfl (pv 3)) (blkOk_by (N := ["self", "sizes", "width", "covers", "cover"]) (sc := C8.fnScope (meth 43 0)) (by decide +kernel)) (fun _ _ _ _ _ => (pg_name (i := 4) S.nd rfl (Or.inl rfl))) (fun _ _ _ _ _ => pts_nil) (fun _ _ _ _ _ => (C8.pe_c c_packed hr (by decide) rfl (pa_cons (pe_lst (pa_starK (K := K) rfl (C8.pe_mt0 c_mask hr (by decide) (pv 4)) (pa_cons (pe_fldK (K := K) rfl (pv 4) rfl) pa_nil))) (pa_cons (pe_fldK (K := K) rfl (pv 0) rfl) pa_nil))))) rfl)))))), ?_⟩
    have n8 := o.n8
    have ll := Sz.lane_le o
    obtain ⟨ds, hs⟩ := hs
    obtain ⟨as, hcl, las, gas⟩ := hc
    have ns : so ≠ x := ne_ins hs hx (fun e => by injection e with e; revert e; decide)
    have ncl : cl ≠ x := ne_ins hcl hx (fun e => by cases e)
    walk_at "q"
    refine ⟨_, _, _, _, rfl, hx, T.c_Switch, T.n_Switch_sizes, (show (0 : Nat) < 1000 by decide), ?_⟩
    walk_at "q"
    refine ⟨_, _, _, _, rfl, upd_same, T.c_Switch, T.n_Switch_width, (show (1 : Nat) < 1000 by decide), ?_⟩
    walk_at "q"
    rw [upd_upd]
    refine ⟨cl, _, rfl, .inl (SqL.of (by rw [upd_ne ncl]; exact hcl)), fun p np => ?_⟩
    generalize hu : upd _ p _ = H1
    have npx : p ≠ x := fun e => by rw [e, upd_same] at np; cases np
    obtain ⟨s1, hp⟩ := nwx np hu
    have k1 : KpA x H H1 := KpA.trans KpA.upd (KpA.of s1)
    have hx1 : H1 x = some (.ins 621 dx [("sizes", .ref so), ("width", .int wd)]) := by rw [s1 _ _ upd_same]; rfl
    clear hu s1 np
    walk_at "q"
    refine ⟨_, _, _, _, rfl, hx1, T.c_Switch, T.n_Switch_covers, (show (2 : Nat) < 1000 by decide), ?_⟩
    walk_at "q"
    refine ⟨so, z, rfl, o, ⟨ds, by rw [upd_ne ns]; exact k1 _ _ ns hs⟩, ?_⟩
    walk_at "q"
    refine ⟨_, _, _, _, rfl, upd_same, T.c_Switch, T.n_Switch_lane, (show (3 : Nat) < 1000 by decide), ?_⟩
    walk_at "q"
    rw [upd_upd]
    generalize hu : upd _ x _ = H3
    have k3 : KpA x H H3 := by rw [← hu]; exact k1.trans KpA.upd
    have h3 : H3 x = some (.ins 621 dx [("sizes", .ref so), ("width", .int wd), ("_covers", .ref p), ("_lane", .int z.lane)]) := by rw [← hu, upd_same]; rfl
    have p3 : H3 p = some (refL as) := by rw [← hu, upd_ne npx, hp]; rfl
    clear hu hx1 hp k1
    have cv : ∀ (i : Nat) a c, as[i]? = some a → cs[i]? = some c → CvAt so c a H3 := fun i a c h1 h2 => (gas i a c h1 h2).kp k3 hx (by decide)
    refine ⟨cl, rfl, ⟨_, SqL.of (k3 _ _ ncl hcl)⟩, ?_⟩
    intro D hD
    have nD : D ≠ x := fun e => by rw [e, h3] at hD; cases hD
    refine lc_inv walk_list hD (fun i acc H' => acc = ((lanes z cs).take i).map V.int ∧ Same H3 H') ⟨rfl, Same.refl _⟩ (fun i acc H' o ⟨e, s⟩ => ⟨e, fun b u e => by rw [upd_ne (ne_of_none e hD)]; exact s b u e⟩) (fun i acc H' ⟨_, s⟩ => SqL.of (s _ _ (k3 _ _ ncl hcl))) (by rw [List.length_map]; omega) ?_ ?_
    · rintro i acc v H4 H5 hi hla ⟨e, s4⟩ hD2 ⟨rfl, hx5⟩ Kc kc
      obtain ⟨b, hb1, rfl⟩ := ref_at hx5
      have hi' : i < cs.length := by rw [List.length_map] at hi; omega
      have hc : cs[i]? = some cs[i] := List.getElem?_eq_getElem hi'
      have cok := hok _ (List.getElem_mem hi')
      obtain ⟨d5, m5, e5, f5⟩ := (cv i b _ hb1 hc).same s4
      have hx4 := s4 _ _ h3
      walk_at "q"
      refine ⟨rfl, ?_⟩
      walk_at "q"
      refine ⟨b, _, _, rfl, e5, by rfl, b, so, cs[i], rfl, ⟨d5, m5, e5, f5⟩, fun r H6 nr s6 hr6 => ?_⟩
      walk_at "q"
      refine ⟨r, _, rfl, .inr (SqL.of hr6), ?_⟩
      walk_at "q"
      refine ⟨_, _, _, _, _, rfl, (s6 _ _ e5), T.c_Cover, T.n_Cover_body, rfl, ?_⟩
      walk_at "q"
      refine ⟨Nat.le_trans (m := 1000) (by simp [cok.len]; omega) (by decide), ?_⟩
      walk_at "nw"
      rename_i p7 np7 H7 s7 hp7
      walk_at "q"
      refine ⟨_, _, _, _, _, rfl, (s7 _ _ (s6 _ _ hx4)), T.c_Switch, T.n_Switch_lane, rfl, ?_⟩
      walk_at "q"
      refine ⟨p7, z.lane, cs[i].m ++ [cs[i].y], rfl, by rw [hp7]; simp [intL], by omega, by simp [cok.len]; omega, cok.row o, fun H8 s8 => ?_⟩
      refine kc _ _ (s8 _ _ (s7 _ _ (s6 _ _ hD2))) ⟨?_, s4.trans (s6.trans (s7.trans s8))⟩
      rw [e, List.take_add_one, List.map_append]
      simp [lanes, hc]
    · rintro acc H4 hla ⟨e, s4⟩ hD2
      walk_at "q"
      refine ⟨_, _, _, _, rfl, (s4 _ _ h3), T.c_Switch, T.n_Switch_packed, (show (4 : Nat) < 1000 by decide), ?_⟩
      walk_at "q"
      have e2 : acc = (lanes z cs).map V.int := by rw [e, List.take_of_length_le (by simp [lanes, las])]
      have k5 : KpA x H4 (upd H4 x (.ins 621 dx [("sizes", .ref so), ("width", .int wd), ("_covers", .ref p), ("_lane", .int z.lane), ("_packed", .ref D)])) := KpA.upd
      refine h _ (k3.trans ((KpA.of s4).trans k5)) ⟨⟨dx, p, D, upd_same, ⟨as, ?_, las, fun i a c h1 h2 => ((cv i a c h1 h2).same s4).kp k5 (s4 _ _ h3) (by decide)⟩, ?_⟩, ⟨ds, ?_⟩⟩
      · exact k5 _ _ npx (s4 _ _ p3)
      · refine k5 _ _ nD ?_
        rw [hD2, e2]; rfl
      · exact k5 _ _ ns (s4 _ _ (k3 _ _ ns hs))
end
end K20

set_option Elab.async false
set_option linter.all false
set_option maxRecDepth 100000
set_option maxHeartbeats 4000000
namespace K20
open PySem PySem.Spec PyProof.Rows L2
local macro_rules | `(tactic| walk_at "q1") => `(tactic| first
  | with_reducible refine r_seq ?_ | with_reducible refine r_asg ?_ | with_reducible refine r_name ?_ | with_reducible refine r_ret ?_ | with_reducible refine r_ifS ?_ | with_reducible refine r_next ?_ | with_reducible refine r_drop ?_
  | ((with_reducible show tVar _ _ _ _); refine ⟨_, rfl, ?_⟩) | with_reducible refine r_c ?_ | with_reducible refine r_op ?_ | with_reducible refine r_un ?_ | with_reducible refine r_I0 ?_ | with_reducible refine r_U ?_
  | with_reducible refine r_eqI ?_ | with_reducible refine r_neI ?_ | with_reducible refine r_neB ?_ | with_reducible refine r_cb ?_ | with_reducible refine r_cons ?_ | with_reducible refine r_nil ?_ | with_reducible refine r_test ?_ | with_reducible refine r_tB ?_
  | with_reducible refine r_bl ?_ | with_reducible refine r_not ?_ | with_reducible refine r_notV ?_ | with_reducible refine r_and ?_ | with_reducible refine r_or ?_ | with_reducible refine r_andV ?_ | with_reducible refine r_orV ?_ | with_reducible refine r_if ?_
  | with_reducible refine r_T ?_ | with_reducible refine r_F ?_ | with_reducible refine r_NT ?_ | with_reducible refine r_NF ?_ | with_reducible refine r_call ?_ | with_reducible refine r_meth ?_ | with_reducible refine r_int1 ?_ | with_reducible refine r_fld ?_
  | with_reducible refine r_tup ?_ | with_reducible refine r_lst ?_ | with_reducible refine r_par ?_ | with_reducible refine r_par3 ?_ | with_reducible refine r_two ?_ | with_reducible refine r_three ?_ | with_reducible refine r_abs ?_ | with_reducible refine r_max ?_
  | with_reducible refine r_cut ?_ | with_reducible refine r_lc ?_ | with_reducible refine r_lc2 ?_ | with_reducible refine r_mkB ?_ | with_reducible refine r_for ?_ | with_reducible refine r_iList ?_ | with_reducible refine r_iTup ?_ | with_reducible refine r_revL ?_ | with_reducible refine r_star ?_ | with_reducible refine r_bits ?_ | with_reducible refine r_iRng ?_ | with_reducible refine r_iEnum ?_ | with_reducible refine r_iZip ?_ | with_reducible refine r_sub ?_ | with_reducible refine r_sfld ?_ | with_reducible refine r_bm ?_
  | with_reducible refine r_methK ?_ | with_reducible refine r_methS ?_ | with_reducible refine r_make ?_ | with_reducible refine r_mod ?_ | with_reducible refine r_gtup ?_ | with_reducible refine r_gcons ?_ | with_reducible refine r_gnil ?_ | with_reducible refine r_slc ?_ | with_reducible refine r_part ?_ | with_reducible refine r_noPart ?_)
local macro_rules | `(tactic| walk_at "nw") => `(tactic| (intro p hp; generalize hu : upd _ p _ = H1; obtain ⟨s1, hp1⟩ := nwx hp hu; clear hu))
local macro_rules | `(tactic| walk_at "q") => `(tactic| repeat walk_at "q1")
section
variable {P : Program} {w : World} {K : Fr} {mg : Str → Option Value} {base : Heap}
/-! ### pens -/
def adv (s : Int) : Int := (s * 48271 + 1234577) % Pm
def tot (s : Int) : Nat → Int × Int
  | 0 => (0, s)
  | n + 1 => ((tot s n).1 * 2 ^ 45 + adv (tot s n).2 / 65536, adv (tot s n).2)
inductive Pen where
  | made (s : Int)
  | lst (ns es : List Int) (i j : Nat)
def clampI (x : Int) (e : Nat) : Int := if (e : Int) < x then e else if x < -(e : Int) then -(e : Int) else x
def Pen.resid (z : Sz) : Pen → Int × Pen
  | .made s => ((tot s 3).1 % z.q, .made (tot s 3).2)
  | .lst ns es i j => (ns.getD (i % ns.length) 0 % z.q, .lst ns es (i + 1) j)
def Pen.noise (z : Sz) : Pen → Int × Pen
  | .made s => (adv s / 65536 % (2 * (z.e : Int) + 1) - z.e, .made (adv s))
  | .lst ns es i j => (clampI (es.getD (j % es.length) 0) z.e, .lst ns es i (j + 1))
def Pen.Ok : Pen → Prop
  | .made s => 0 ≤ s ∧ s < Pm
  | .lst ns es _ _ => ns ≠ [] ∧ es ≠ [] ∧ ns.length ≤ 1000 ∧ es.length ≤ 1000
structure Pl where
  dx : Addr
  na : Addr
  ea : Addr
/-- a pen stands at a, its parts at l -/
def PenAt : Pen → Addr → Pl → Hp → Prop
  | .made s, a, l, H => H a = some (.ins 678 l.dx [("_state", .int s)]) ∧ l.na = a ∧ l.ea = a
  | .lst ns es i j, a, l, H => H a = some (.ins 720 l.dx [("_given_numbers", .ref l.na), ("_given_noises", .ref l.ea), ("_number_at", .int ((i % ns.length : Nat) : Int)), ("_noise_at", .int ((j % es.length : Nat) : Int))]) ∧ H l.na = some (intL ns) ∧ H l.ea = some (intL es)
theorem adv_ok (s : Int) : 0 ≤ adv s ∧ adv s < Pm := ⟨Int.emod_nonneg _ (by decide), Int.emod_lt_of_pos _ (by decide)⟩
theorem adv_part (s : Int) : 0 ≤ adv s / 65536 ∧ adv s / 65536 < 2 ^ 45 := by
  obtain ⟨a, b⟩ := adv_ok s
  unfold Pm at b
  omega
theorem tot_bd (s : Int) : ∀ n, 0 ≤ (tot s n).1 ∧ (tot s n).1 < 2 ^ (45 * n)
  | 0 => ⟨Int.le_refl 0, (by decide : (0 : Int) < 2 ^ 0)⟩
  | n + 1 => by
    obtain ⟨a, b⟩ := tot_bd s n
    obtain ⟨c, d⟩ := adv_part (tot s n).2
    show 0 ≤ (tot s n).1 * 2 ^ 45 + _ ∧ (tot s n).1 * 2 ^ 45 + adv (tot s n).2 / 65536 < _
    refine ⟨by omega, ?_⟩
    have e : (2 : Int) ^ (45 * (n + 1)) = 2 ^ (45 * n) * 2 ^ 45 := by rw [Nat.mul_succ, Int.pow_add]
    rw [e]
    omega
theorem Pen.ok_resid {z : Sz} {p : Pen} (h : p.Ok) : (p.resid z).2.Ok := by
  cases p with
  | made s => exact adv_ok _
  | lst => exact h
theorem Pen.ok_noise {z : Sz} {p : Pen} (h : p.Ok) : (p.noise z).2.Ok := by
  cases p with
  | made s => exact adv_ok _
  | lst => exact h
theorem Pen.resid_bd {z : Sz} {p : Pen} : 0 ≤ (p.resid z).1 ∧ (p.resid z).1 < z.q := by
  have qp := z.qpos
  cases p <;> exact ⟨Int.emod_nonneg _ (by omega), Int.emod_lt_of_pos _ qp⟩
theorem Pen.noise_bd {z : Sz} {p : Pen} : -(z.e : Int) ≤ (p.noise z).1 ∧ (p.noise z).1 ≤ z.e := by
  cases p with
  | made s =>
    show -(z.e : Int) ≤ adv s / 65536 % (2 * (z.e : Int) + 1) - z.e ∧ adv s / 65536 % (2 * (z.e : Int) + 1) - z.e ≤ z.e
    have := Int.emod_nonneg (adv s / 65536) (show 2 * (z.e : Int) + 1 ≠ 0 by omega)
    have := Int.emod_lt_of_pos (adv s / 65536) (show 0 < 2 * (z.e : Int) + 1 by omega)
    omega
  | lst ns es i j =>
    show -(z.e : Int) ≤ clampI _ z.e ∧ clampI _ z.e ≤ z.e
    unfold clampI
    split
    · omega
    · split <;> omega
theorem PenAt.same {p : Pen} {a : Addr} {l : Pl} {H H' : Hp} (h : PenAt p a l H) (s : Same H H') : PenAt p a l H' := by
  cases p with
  | made st => exact ⟨s _ _ h.1, h.2⟩
  | lst ns es i j => exact ⟨s _ _ h.1, s _ _ h.2.1, s _ _ h.2.2⟩
/-- what stands at a pen -/
theorem PenAt.ins {p : Pen} {a : Addr} {l : Pl} {H : Hp} (h : PenAt p a l H) : ∃ C dx fs, H a = some (.ins C dx fs) ∧ (C = 678 ∨ C = 720) := by
  cases p with
  | made st => exact ⟨_, _, _, h.1, .inl rfl⟩
  | lst ns es i j => exact ⟨_, _, _, h.1, .inr rfl⟩
/-- an address where nothing stood is none of the pen's -/
theorem PenAt.off {p : Pen} {a D : Addr} {l : Pl} {H : Hp} (h : PenAt p a l H) (hD : H D = none) : D ≠ a ∧ D ≠ l.na ∧ D ≠ l.ea := by
  cases p with
  | made st =>
    obtain ⟨e, q1, q2⟩ := h
    have : D ≠ a := fun z => by rw [z, e] at hD; cases hD
    exact ⟨this, by rw [q1]; exact this, by rw [q2]; exact this⟩
  | lst ns es i j =>
    obtain ⟨e, f, g⟩ := h
    exact ⟨fun q => (by rw [q, e] at hD; cases hD), fun q => (by rw [q, f] at hD; cases hD), fun q => (by rw [q, g] at hD; cases hD)⟩
theorem PenAt.upd {p : Pen} {a D : Addr} {l : Pl} {H : Hp} {o : HO} (h : PenAt p a l H) (d : D ≠ a ∧ D ≠ l.na ∧ D ≠ l.ea) : PenAt p a l (upd H D o) := by
  obtain ⟨d1, d2, d3⟩ := d
  cases p with
  | made st => exact ⟨by rw [upd_ne d1.symm]; exact h.1, h.2⟩
  | lst ns es i j => exact ⟨by rw [upd_ne d1.symm]; exact h.1, by rw [upd_ne d2.symm]; exact h.2.1, by rw [upd_ne d3.symm]; exact h.2.2⟩
/-- drawing from the one keeps the other -/
theorem PenAt.kp {p p' : Pen} {a b : Addr} {l l' : Pl} {H H' : Hp} (h : PenAt p a l H) (hb : PenAt p' b l' H) (ne : a ≠ b) (k : KpA b H H') : PenAt p a l H' := by
  obtain ⟨C, dx, fs, eb, _⟩ := hb.ins
  cases p with
  | made st => exact ⟨k _ _ ne h.1, h.2⟩
  | lst ns es i j =>
    obtain ⟨e, f, g⟩ := h
    exact ⟨k _ _ ne e, k _ _ (ne_ins f eb fun q => by cases q) f, k _ _ (ne_ins g eb fun q => by cases q) g⟩
theorem SzAt.kp' {z : Sz} {a b : Addr} {p : Pen} {l : Pl} {H H' : Hp} (h : SzAt z a H) (hb : PenAt p b l H) (k : KpA b H H') : SzAt z a H' := by
  obtain ⟨C, dx, fs, eb, c⟩ := hb.ins
  obtain ⟨d, e⟩ := h
  refine ⟨d, k _ _ (ne_ins e eb fun q => ?_) e⟩
  injection q with q
  rcases c with c | c <;> rw [c] at q <;> revert q <;> decide
def spRes (p : Pen) : Sp := fun vs H Q _ => ∃ (a so : Addr) (z : Sz) (l : Pl), vs = [.ref a, .ref so] ∧ z.Ok ∧ SzAt z so H ∧ PenAt p a l H ∧ p.Ok ∧ ∀ H', KpA a H H' → PenAt (p.resid z).2 a l H' → Q (.int (p.resid z).1) H'
def spNoi (p : Pen) : Sp := fun vs H Q _ => ∃ (a so : Addr) (z : Sz) (l : Pl), vs = [.ref a, .ref so] ∧ z.Ok ∧ SzAt z so H ∧ PenAt p a l H ∧ p.Ok ∧ ∀ H', KpA a H H' → PenAt (p.noise z).2 a l H' → Q (.int (p.noise z).1) H'
def spTwin (p : Pen) : Sp := fun vs H Q _ => ∃ (a : Addr) (l : Pl), vs = [.ref a] ∧ PenAt p a l H ∧ p.Ok ∧ ∀ b l' H', H b = none → Same H H' → PenAt p b l' H' → Q (.ref b) H'
/-- of a pen made by a seed -/
def spM (sp : Pen → Sp) : Sp := fun vs H Q E => ∃ s, sp (.made s) vs H Q E
def spL (sp : Pen → Sp) : Sp := fun vs H Q E => ∃ ns es i j, sp (.lst ns es i j) vs H Q E
def spAdv : Sp := fun vs H Q _ => ∃ (a dx : Addr) (s : Int), vs = [.ref a] ∧ H a = some (.ins 678 dx [("_state", .int s)]) ∧ Q (.int (adv s / 65536)) (upd H a (.ins 678 dx [("_state", .int (adv s))]))
theorem ok_advance (T : Txt K mg) : C8.Met P w K mg base 1 678 "_advance" spAdv [] := by
  have S : FnScope ["self"] ["self"] (C8.fnScope (meth 49 5)) := C8.fnScope_by (by decide +kernel)
  refine met_of T.f_Made_advance T.c_Made T.m_Made_advance S (fun _ _ _ _ _ _ us hl => match us, hl with | [_], _ => rfl) (fun vs H Q E h => ?_) (fun cdv A outer s H vs Q E hr h => ?_)
  · obtain ⟨a, dx, st, rfl, _⟩ := h
    rfl
  · obtain ⟨a, dx, st, rfl, ha, h⟩ := h
    refine ⟨_, (pss_cons (ps_fld (pv 0) (pe_op op_mod (pe_op op_add (pe_op op_mul (pe_fldK (K := K) rfl (pv 0) rfl) (pe_gi rfl T.v_FACTOR)) (pe_gi rfl T.v_STEP)) (pe_gi rfl T.v_AROUND)) rfl)
      (pss_one (ps_ret (pe_op op_fdiv (pe_fldK (K := K) rfl (pv 0) rfl) (pe_gi rfl T.v_YIELD_PART))))), ?_⟩
    walk_at "q"
    refine ⟨_, _, _, _, _, rfl, ha, T.c_Made, T.n_Made_state, rfl, ?_⟩
    walk_at "q"
    refine r_I (.inr ⟨by decide, by decide⟩) ?_
    walk_at "q"
    refine r_I (by decide) ?_
    walk_at "q"
    refine ⟨_, _, _, _, rfl, ha, T.c_Made, T.n_Made_state, (show (1 : Nat) < 1000 by decide), ?_⟩
    walk_at "q"
    refine ⟨_, _, _, _, _, rfl, upd_same, T.c_Made, T.n_Made_state, rfl, ?_⟩
    walk_at "q"
    refine r_I ⟨by decide, by decide⟩ ?_
    exact h
theorem ok_Mresidue (T : Txt K mg) (g_modulus : GMod P w K mg base) (c_advance : C8.Met P w K mg base 1 678 "_advance" spAdv []) : C8.Met P w K mg base 3 678 "residue" (spM spRes) [] := by
  have S : FnScope ["self", "sizes", "total", "_"] ["self", "sizes"] (C8.fnScope (meth 49 2)) := C8.fnScope_by (by decide +kernel)
  refine met_of T.f_Made_residue T.c_Made T.m_Made_residue S (fun _ _ _ _ _ _ us hl => match us, hl with | [_, _], _ => rfl) (fun vs H Q E h => ?_) (fun cdv A outer s H vs Q E hr h => ?_)
  · obtain ⟨st, a, so, z, l, rfl, _⟩ := h
    rfl
  · obtain ⟨st, a, so, z, ⟨dx, na, ea⟩, rfl, o, hs, pa, hok, h⟩ := h
    obtain ⟨ha, e1, e2⟩ := id pa
    have ha : H a = some (.ins 678 dx [("_state", .int st)]) := ha
    refine ⟨_, (pss_cons (ps_set (i := 2) S.nd rfl (Or.inl rfl) pe_int)
      (pss_cons (ps_for PassesOwn.never rfl (pi_range1 rfl T.z_range (pa_cons pe_int pa_nil)) (pg_name (i := 3) S.nd rfl (Or.inl rfl)) (pss_one (ps_set (i := 2) S.nd rfl (Or.inl rfl) (pe_op op_add (pe_op op_shlW (pv 2) pe_int) (C8.pe_mt0 c_advance hr (by decide) (pv 0))))))
      (pss_one (ps_ret (pe_op op_mod (pv 2) (pe_mod T g_modulus hr (pv 1))))))), ?_⟩
    walk_at "q"
    refine ⟨_, rfl, by decide, by decide, ?_⟩
    refine for_it (walk_range (n := 3)) (fun i σ H' => ∃ v3, σ = [some (.ref a), some (.ref so), some (.int (tot st i).1), v3] ∧ KpA a H H' ∧ H' a = some (.ins 678 dx [("_state", .int (tot st i).2)])) ⟨_, rfl, KpA.refl, ha⟩ (fun _ _ _ _ _ => trivial) ?_ ?_
    · rintro i v σ H2 H3 hi ⟨v3, rfl, k2, ha2⟩ ⟨rfl, rfl⟩
      obtain ⟨b1, b2⟩ := tot_bd st i
      walk_at "q"
      refine r_I (shl_ok (j := 45) (natAbs_lt b1 b2) (by omega)) ?_
      walk_at "q"
      refine ⟨a, dx, _, rfl, ha2, by rfl, a, dx, _, rfl, ha2, ?_⟩
      walk_at "q"
      exact ⟨_, rfl, k2.trans KpA.upd, upd_same⟩
    · rintro σ H2 ⟨v3, rfl, k2, ha2⟩
      obtain ⟨ds, hs2⟩ := hs.kp' pa k2
      walk_at "q"
      refine ⟨_, _, _, rfl, hs2, _, _, _, _, rfl, hs2, rfl, ?_⟩
      walk_at "q"
      refine r_I z.qpos ?_
      exact h _ k2 ⟨ha2, e1, e2⟩
theorem ok_Mnoise (T : Txt K mg) (c_advance : C8.Met P w K mg base 1 678 "_advance" spAdv []) : C8.Met P w K mg base 2 678 "noise" (spM spNoi) [] := by
  have S : FnScope ["self", "sizes"] ["self", "sizes"] (C8.fnScope (meth 49 3)) := C8.fnScope_by (by decide +kernel)
  refine met_of T.f_Made_noise T.c_Made T.m_Made_noise S (fun _ _ _ _ _ _ us hl => match us, hl with | [_, _], _ => rfl) (fun vs H Q E h => ?_) (fun cdv A outer s H vs Q E hr h => ?_)
  · obtain ⟨st, a, so, z, l, rfl, _⟩ := h
    rfl
  · obtain ⟨st, a, so, z, ⟨dx, na, ea⟩, rfl, o, hs, pa, hok, h⟩ := h
    obtain ⟨ha, e1, e2⟩ := id pa
    have ha : H a = some (.ins 678 dx [("_state", .int st)]) := ha
    refine ⟨_, (pss_one (ps_ret (pe_op op_sub (pe_op op_mod (C8.pe_mt0 c_advance hr (by decide) (pv 0)) (pe_op op_add (pe_op op_mul pe_int (pe_fldK (K := K) rfl (pv 1) rfl)) pe_int)) (pe_fldK (K := K) rfl (pv 1) rfl)))), ?_⟩
    walk_at "q"
    refine ⟨a, dx, _, rfl, ha, by rfl, a, dx, _, rfl, ha, ?_⟩
    generalize hu : upd H a _ = H1
    have k1 : KpA a H H1 := by rw [← hu]; exact KpA.upd
    have h1 : H1 a = some (.ins 678 dx [("_state", .int (adv st))]) := by rw [← hu]; exact upd_same
    obtain ⟨ds, hs2⟩ := hs.kp' pa k1
    have oe := o.e1
    walk_at "q"
    refine ⟨_, _, _, _, _, rfl, hs2, T.c_Sizes, T.n_Sizes_spread, rfl, ?_⟩
    walk_at "q"
    refine r_I (.inl ⟨by decide, by decide⟩) ?_
    walk_at "q"
    refine r_I (by omega) ?_
    walk_at "q"
    refine ⟨_, _, _, _, _, rfl, hs2, T.c_Sizes, T.n_Sizes_spread, rfl, ?_⟩
    walk_at "q"
    exact h _ k1 ⟨h1, e1, e2⟩
def spMade : Sp := fun vs H Q _ => ∃ (x dx : Addr) (i : Int), vs = [.ref x, .int i] ∧ H x = some (.ins 678 dx []) ∧ Q .non (upd H x (.ins 678 dx [("_state", .int (i % Pm))]))
theorem ok_Made (T : Txt K mg) (c_any_number : C8.Cal P w K mg base 1 "any_number" spAnyN []) : C8.Mak P w K mg base 2 "Made" 678 spMade [] := by
  have S : FnScope ["self", "seed"] ["self", "seed"] (C8.fnScope (meth 49 0)) := C8.fnScope_by (by decide +kernel)
  refine mak_of T.f_Made_init T.k_Made T.g_Made S (fun _ _ _ _ _ _ us hl => match us, hl with | [_, _], _ => rfl) (fun vs H Q E h => ?_) (fun cdv A outer s H vs Q E hr h => ?_)
  · obtain ⟨x, dx, i, rfl, _⟩ := h
    rfl
  · obtain ⟨x, dx, i, rfl, hx, h⟩ := h
    refine ⟨_, (pss_cons (ps_if (pt_not (pt_val (C8.pe_c c_any_number hr (by decide) rfl (pa_cons (pv 1) pa_nil)))) (pss_one ps_never) pss_nil)
      (pss_one (ps_fld (pv 0) (pe_op op_mod (pv 1) (pe_gi rfl T.v_AROUND)) rfl))), ?_⟩
    walk_at "q"
    refine ⟨i, rfl, ?_⟩
    walk_at "q"
    refine r_I (by decide) ?_
    walk_at "q"
    refine ⟨_, _, _, _, rfl, hx, T.c_Made, T.n_Made_state, (show (0 : Nat) < 1000 by decide), ?_⟩
    walk_at "q"
    exact h
theorem made_new {H : Hp} {x dx : Addr} {o u : HO} (hx : H x = none) (hd : H dx = none) (ne : dx ≠ x) : Same H (upd (upd H dx u) x o) := fun a v e => by rw [upd_ne (ne_of_none e hx), upd_ne (ne_of_none e hd)]; exact e
theorem ok_Mtwin (T : Txt K mg) (c_Made : C8.Mak P w K mg base 2 "Made" 678 spMade []) : C8.Met P w K mg base 4 678 "twin" (spM spTwin) [] := by
  have S : FnScope ["self"] ["self"] (C8.fnScope (meth 49 4)) := C8.fnScope_by (by decide +kernel)
  refine met_of T.f_Made_twin T.c_Made T.m_Made_twin S (fun _ _ _ _ _ _ us hl => match us, hl with | [_], _ => rfl) (fun vs H Q E h => ?_) (fun cdv A outer s H vs Q E hr h => ?_)
  · obtain ⟨st, a, l, rfl, _⟩ := h
    rfl
  · obtain ⟨st, a, l, rfl, ⟨ha, _, _⟩, ⟨o1, o2⟩, h⟩ := h
    refine ⟨_, (pss_one (ps_ret (C8.pe_mk c_Made hr (by decide) rfl (pa_cons (pe_fldK (K := K) rfl (pv 0) rfl) pa_nil)))), ?_⟩
    walk_at "q"
    refine ⟨_, _, _, _, _, rfl, ha, T.c_Made, T.n_Made_state, rfl, ?_⟩
    walk_at "q"
    intro x dx hx hd ne
    refine ⟨x, dx, _, rfl, upd_same, rfl, ?_⟩
    rw [upd_upd, Int.emod_eq_of_lt o1 o2]
    exact h x ⟨dx, x, x⟩ _ hx (made_new hx hd ne) ⟨upd_same, rfl, rfl⟩
end
end K20

set_option Elab.async false
set_option linter.all false
set_option maxRecDepth 100000
set_option maxHeartbeats 4000000
namespace K20
open PySem PySem.Spec PyProof.Rows L2
local macro_rules | `(tactic| walk_at "q1") => `(tactic| first
  | with_reducible refine r_seq ?_ | with_reducible refine r_asg ?_ | with_reducible refine r_name ?_ | with_reducible refine r_ret ?_ | with_reducible refine r_ifS ?_ | with_reducible refine r_next ?_ | with_reducible refine r_drop ?_
  | ((with_reducible show tVar _ _ _ _); refine ⟨_, rfl, ?_⟩) | with_reducible refine r_c ?_ | with_reducible refine r_op ?_ | with_reducible refine r_un ?_ | with_reducible refine r_I0 ?_ | with_reducible refine r_U ?_
  | with_reducible refine r_eqI ?_ | with_reducible refine r_neI ?_ | with_reducible refine r_neB ?_ | with_reducible refine r_cb ?_ | with_reducible refine r_cons ?_ | with_reducible refine r_nil ?_ | with_reducible refine r_test ?_ | with_reducible refine r_tB ?_
  | with_reducible refine r_bl ?_ | with_reducible refine r_not ?_ | with_reducible refine r_notV ?_ | with_reducible refine r_and ?_ | with_reducible refine r_or ?_ | with_reducible refine r_andV ?_ | with_reducible refine r_orV ?_ | with_reducible refine r_if ?_
  | with_reducible refine r_T ?_ | with_reducible refine r_F ?_ | with_reducible refine r_NT ?_ | with_reducible refine r_NF ?_ | with_reducible refine r_call ?_ | with_reducible refine r_meth ?_ | with_reducible refine r_int1 ?_ | with_reducible refine r_fld ?_
  | with_reducible refine r_tup ?_ | with_reducible refine r_lst ?_ | with_reducible refine r_par ?_ | with_reducible refine r_par3 ?_ | with_reducible refine r_two ?_ | with_reducible refine r_three ?_ | with_reducible refine r_abs ?_ | with_reducible refine r_max ?_
  | with_reducible refine r_cut ?_ | with_reducible refine r_lc ?_ | with_reducible refine r_lc2 ?_ | with_reducible refine r_mkB ?_ | with_reducible refine r_for ?_ | with_reducible refine r_iList ?_ | with_reducible refine r_iTup ?_ | with_reducible refine r_revL ?_ | with_reducible refine r_star ?_ | with_reducible refine r_bits ?_ | with_reducible refine r_iRng ?_ | with_reducible refine r_iEnum ?_ | with_reducible refine r_iZip ?_ | with_reducible refine r_sub ?_ | with_reducible refine r_sfld ?_ | with_reducible refine r_bm ?_
  | with_reducible refine r_methK ?_ | with_reducible refine r_methS ?_ | with_reducible refine r_make ?_ | with_reducible refine r_mod ?_ | with_reducible refine r_gtup ?_ | with_reducible refine r_gcons ?_ | with_reducible refine r_gnil ?_ | with_reducible refine r_slc ?_ | with_reducible refine r_part ?_ | with_reducible refine r_noPart ?_)
local macro_rules | `(tactic| walk_at "nw") => `(tactic| (intro p hp; generalize hu : upd _ p _ = H1; obtain ⟨s1, hp1⟩ := nwx hp hu; clear hu))
local macro_rules | `(tactic| walk_at "q") => `(tactic| repeat walk_at "q1")
section
variable {P : Program} {w : World} {K : Fr} {mg : Str → Option Value} {base : Heap}
/-! ### listed pens -/
def spListed : Sp := fun vs H Q _ => ∃ (x dx a b : Addr) (ns es : List Int), vs = [.ref x, .ref a, .ref b] ∧ H x = some (.ins 720 dx []) ∧ SqA a (ns.map V.int) H ∧ SqA b (es.map V.int) H ∧ (Pen.lst ns es 0 0).Ok ∧ ∀ l H', KpA x H H' → PenAt (.lst ns es 0 0) x l H' → Q .non H'
theorem SqA.same {a : Addr} {xs : List V} {H H' : Hp} (h : SqA a xs H) (s : Same H H') : SqA a xs H' := h.elim (fun h => .inl (s _ _ h)) fun h => .inr (s _ _ h)
theorem SqA.kp {a x : Addr} {xs : List V} {H H' : Hp} (h : SqA a xs H) (s : KpA x H H') {C dx : Addr} {fs : List (Str × V)} (hx : H x = some (.ins C dx fs)) : SqA a xs H' :=
  h.elim (fun h => .inl (s _ _ (ne_ins h hx fun q => by cases q) h)) fun h => .inr (s _ _ (ne_ins h hx fun q => by cases q) h)
theorem SqA.or {a : Addr} {xs : List V} {H : Hp} (h : SqA a xs H) : SqL K H a xs ∨ SqT K H a xs := h.elim (fun h => .inl (SqL.of h)) fun h => .inr (SqT.of h)
theorem fnx_of_df {x qual : Str} {st : Stmt} {a cda : Addr} {N ps : List Str} {k : Nat} {sp : Sp} (F : Df K x qual st a cda) (S : FnScope N ps (C8.fnScope st)) (len : ∀ vs H Q E, sp vs H Q E → vs.length = ps.length)
    (hbody : ∀ (cdv : Value) (A : Around) (outer : List Env) (s : Shared) (H : Hp) (vs : List V) (Q : VK) (E : XK), Room k (A.deeper (envOfC qual (C8.fnScope st) s.heap.objs.size a cdv)) → sp vs H Q E →
      ∃ t, PSs (cxOf C8.CX0 P w K mg base N qual (C8.fnScope st) a cdv A outer s H E).nox (C8.fnBody st) t ∧ t { nx := fun _ H' => Q .non H', rt := Q } (start N vs) H) :
    ∃ (kV doc pm : Value) (an : Option Addr) (ct : Value), FnOk P w K mg base C8.CX0 (k + 1) a (PySem.W.fnOf x qual (C8.fnArgs st) (C8.fnBody st) (C8.fnScope st) .none kV doc pm an (.ref cda) ct) ps sp := by
  obtain ⟨fd, hF, df, kV, doc, pm, an, ct, e⟩ := F.fun_
  subst e
  exact ⟨kV, doc, pm, an, ct, C8.fn0 hF S len hbody⟩
theorem ok_Listed_fn (T : Txt K mg) (c_is_number_list : C8.Cal P w K mg base 2 "_is_number_list" spNL []) : ∃ (kV doc pm : Value) (an : Option Addr) (ct : Value),
    FnOk P w K mg base C8.CX0 3 696 (PySem.W.fnOf "__init__" "Listed.__init__" (C8.fnArgs (meth 50 0)) (C8.fnBody (meth 50 0)) (C8.fnScope (meth 50 0)) .none kV doc pm an (.ref 695) ct) ["self", "numbers", "noises"] spListed := by
  have S : FnScope ["self", "numbers", "noises"] ["self", "numbers", "noises"] (C8.fnScope (meth 50 0)) := C8.fnScope_by (by decide +kernel)
  refine fnx_of_df T.f_Listed_init S (fun vs H Q E h => ?_) (fun cdv A outer s H vs Q E hr h => ?_)
  · obtain ⟨x, dx, a, b, ns, es, rfl, _⟩ := h
    rfl
  · obtain ⟨x, dx, a, b, ns, es, rfl, hx, ha, hb, ⟨k1, k2, k3, k4⟩, h⟩ := h
    refine ⟨_, (pss_cons (ps_if (pt_not (pt_val (C8.pe_c c_is_number_list hr (by decide) rfl (pa_cons (pv 1) pa_nil)))) (pss_one ps_never) pss_nil)
      (pss_cons (ps_if (pt_not (pt_val (C8.pe_c c_is_number_list hr (by decide) rfl (pa_cons (pv 2) pa_nil)))) (pss_one ps_never) pss_nil)
      (pss_cons (ps_fld (pv 0) (pe_callTy call_list_of rfl T.z_list (by decide +kernel) (pa_cons (pv 1) pa_nil)) rfl)
      (pss_cons (ps_fld (pv 0) (pe_callTy call_list_of rfl T.z_list (by decide +kernel) (pa_cons (pv 2) pa_nil)) rfl)
      (pss_cons (ps_fld (pv 0) pe_int rfl)
      (pss_one (ps_fld (pv 0) pe_int rfl))))))), ?_⟩
    walk_at "q"
    refine ⟨a, ns, rfl, ha, k1, k3, fun H1 s1 => ?_⟩
    walk_at "q"
    refine ⟨b, es, rfl, hb.same s1, k2, k4, fun H2 s2 => ?_⟩
    have s := s1.trans s2
    have h2 := s _ _ hx
    walk_at "q"
    refine ⟨a, _, rfl, (ha.same s).or, fun p np => ?_⟩
    generalize hu : upd H2 p _ = H3
    obtain ⟨s3, hp⟩ := nwx np hu
    clear hu
    have npx : p ≠ x := fun e => by rw [e, h2] at np; cases np
    walk_at "q"
    refine ⟨_, _, _, _, rfl, (s3 _ _ h2), T.c_Listed, T.n_Listed_given_numbers, (show (0 : Nat) < 1000 by decide), ?_⟩
    walk_at "q"
    generalize hu : upd H3 x _ = H4
    have q4 : KpA x H3 H4 := by rw [← hu]; exact KpA.upd
    have h4 : H4 x = some (.ins 720 dx [("_given_numbers", .ref p)]) := by rw [← hu]; exact upd_same
    clear hu
    have hb4 := ((hb.same s).same s3).kp q4 (s3 _ _ h2)
    refine ⟨b, _, rfl, hb4.or, fun r nr => ?_⟩
    generalize hu : upd H4 r _ = H5
    obtain ⟨s5, hr5⟩ := nwx nr hu
    clear hu
    have nrx : r ≠ x := fun e => by rw [e, h4] at nr; cases nr
    walk_at "q"
    refine ⟨_, _, _, _, rfl, (s5 _ _ h4), T.c_Listed, T.n_Listed_given_noises, (show (1 : Nat) < 1000 by decide), ?_⟩
    walk_at "q"
    refine ⟨_, _, _, _, rfl, upd_same, T.c_Listed, T.n_Listed_number_at, (show (2 : Nat) < 1000 by decide), ?_⟩
    walk_at "q"
    refine ⟨_, _, _, _, rfl, upd_same, T.c_Listed, T.n_Listed_noise_at, (show (3 : Nat) < 1000 by decide), ?_⟩
    walk_at "q"
    rw [upd_upd, upd_upd]
    refine h ⟨dx, p, r⟩ _ ((((KpA.of (s.trans s3)).trans q4).trans (KpA.of s5)).trans KpA.upd) ⟨?_, ?_, ?_⟩
    · rw [upd_same, Nat.zero_mod, Nat.zero_mod]; rfl
    · rw [upd_ne npx]; exact s5 _ _ (q4 _ _ npx hp)
    · rw [upd_ne nrx]; exact hr5
theorem ok_Listed (T : Txt K mg) (c_is_number_list : C8.Cal P w K mg base 2 "_is_number_list" spNL []) : C8.Mak P w K mg base 3 "Listed" 720 spListed [] := by
  obtain ⟨kV, doc, pm, an, ct, F⟩ := ok_Listed_fn T c_is_number_list
  exact ⟨696, _, _, [], T.k_Listed, F, T.g_Listed, .all (fun us hl => match us, hl with | [_, _, _], _ => rfl), .nil⟩
theorem mod_next (i n : Nat) : (((i % n : Nat) : Int) + 1) % (n : Int) = (((i + 1) % n : Nat) : Int) := by
  rw [show (((i % n : Nat) : Int) + 1) = ((i % n + 1 : Nat) : Int) by omega, ← Int.natCast_emod, Nat.mod_add_mod]
theorem at_mod {ns : List Int} (h : ns ≠ []) (i : Nat) : atI (ns.map V.int) ((i % ns.length : Nat) : Int) = some (.int (ns.getD (i % ns.length) 0)) := by
  have hl : i % ns.length < ns.length := Nat.mod_lt _ (List.length_pos_iff.mpr h)
  refine atI_nat ?_
  rw [List.getElem?_map, List.getElem?_eq_getElem hl, List.getD_eq_getElem?_getD, List.getElem?_eq_getElem hl]
  rfl
theorem ok_Lresidue (T : Txt K mg) (g_modulus : GMod P w K mg base) : C8.Met P w K mg base 3 720 "residue" (spL spRes) [] := by
  have S : FnScope ["self", "sizes", "number"] ["self", "sizes"] (C8.fnScope (meth 50 1)) := C8.fnScope_by (by decide +kernel)
  refine met_of T.f_Listed_residue T.c_Listed T.m_Listed_residue S (fun _ _ _ _ _ _ us hl => match us, hl with | [_, _], _ => rfl) (fun vs H Q E h => ?_) (fun cdv A outer s H vs Q E hr h => ?_)
  · obtain ⟨ns, es, i, j, a, so, z, l, rfl, _⟩ := h
    rfl
  · obtain ⟨ns, es, i, j, a, so, z, ⟨dx, na, ea⟩, rfl, o, hs, pa, hok, h⟩ := h
    obtain ⟨ha, hn, he⟩ := id pa
    obtain ⟨k1, k2, k3, k4⟩ := id hok
    refine ⟨_, (pss_cons (ps_set (i := 2) S.nd rfl (Or.inl rfl) (pe_ix (ix_listK (K := K) rfl) (pe_fldK (K := K) rfl (pv 0) rfl) (pe_fldK (K := K) rfl (pv 0) rfl) (fun _ _ => rfl)))
      (pss_cons (ps_fld (pv 0) (pe_op op_mod (pe_op op_add (pe_fldK (K := K) rfl (pv 0) rfl) pe_int) (pe_callB call_len_seq rfl T.z_len (by decide +kernel) (pa_cons (pe_fldK (K := K) rfl (pv 0) rfl) pa_nil))) rfl)
      (pss_one (ps_ret (pe_op op_mod (pv 2) (pe_mod T g_modulus hr (pv 1))))))), ?_⟩
    have nl := List.length_pos_iff.mpr k1
    have nna : na ≠ a := ne_ins hn ha fun q => by cases q
    have nea : ea ≠ a := ne_ins he ha fun q => by cases q
    walk_at "q"
    refine ⟨_, _, _, _, _, rfl, ha, T.c_Listed, T.n_Listed_given_numbers, rfl, ?_⟩
    walk_at "q"
    refine ⟨_, _, _, _, _, rfl, ha, T.c_Listed, T.n_Listed_number_at, rfl, ?_⟩
    walk_at "q"
    refine ⟨na, _, _, _, rfl, rfl, SqL.of hn, at_mod k1 i, ?_⟩
    walk_at "q"
    refine ⟨_, _, _, _, _, rfl, ha, T.c_Listed, T.n_Listed_number_at, rfl, ?_⟩
    walk_at "q"
    refine ⟨_, _, _, _, _, rfl, ha, T.c_Listed, T.n_Listed_given_numbers, rfl, ?_⟩
    walk_at "q"
    refine ⟨na, _, rfl, .inl (SqL.of hn), ?_⟩
    walk_at "q"
    refine r_I (by rw [List.length_map]; omega) ?_
    rw [List.length_map, mod_next]
    walk_at "q"
    refine ⟨_, _, _, _, rfl, ha, T.c_Listed, T.n_Listed_number_at, (show (4 : Nat) < 1000 by decide), ?_⟩
    walk_at "q"
    generalize hu : upd H a _ = H1
    have q1 : KpA a H H1 := by rw [← hu]; exact KpA.upd
    have h1 : PenAt (.lst ns es (i + 1) j) a ⟨dx, na, ea⟩ H1 := ⟨by rw [← hu, upd_same]; rfl, q1 _ _ nna hn, q1 _ _ nea he⟩
    obtain ⟨ds, hs2⟩ := hs.kp' pa q1
    refine ⟨_, _, _, rfl, hs2, _, _, _, _, rfl, hs2, rfl, ?_⟩
    walk_at "q"
    refine r_I z.qpos ?_
    exact h _ q1 h1
theorem ok_Lnoise (T : Txt K mg) : C8.Met P w K mg base 2 720 "noise" (spL spNoi) [] := by
  have S : FnScope ["self", "sizes", "noise"] ["self", "sizes"] (C8.fnScope (meth 50 2)) := C8.fnScope_by (by decide +kernel)
  refine met_of T.f_Listed_noise T.c_Listed T.m_Listed_noise S (fun _ _ _ _ _ _ us hl => match us, hl with | [_, _], _ => rfl) (fun vs H Q E h => ?_) (fun cdv A outer s H vs Q E hr h => ?_)
  · obtain ⟨ns, es, i, j, a, so, z, l, rfl, _⟩ := h
    rfl
  · obtain ⟨ns, es, i, j, a, so, z, ⟨dx, na, ea⟩, rfl, o, hs, pa, hok, h⟩ := h
    obtain ⟨ha, hn, he⟩ := id pa
    obtain ⟨k1, k2, k3, k4⟩ := id hok
    refine ⟨_, (pss_cons (ps_set (i := 2) S.nd rfl (Or.inl rfl) (pe_ix (ix_listK (K := K) rfl) (pe_fldK (K := K) rfl (pv 0) rfl) (pe_fldK (K := K) rfl (pv 0) rfl) (fun _ _ => rfl)))
      (pss_cons (ps_fld (pv 0) (pe_op op_mod (pe_op op_add (pe_fldK (K := K) rfl (pv 0) rfl) pe_int) (pe_callB call_len_seq rfl T.z_len (by decide +kernel) (pa_cons (pe_fldK (K := K) rfl (pv 0) rfl) pa_nil))) rfl)
      (pss_cons (ps_if (pt_cmpR op_gt (pv 2) (pe_fldK (K := K) rfl (pv 1) rfl) (nomark _)) (pss_one (ps_ret (pe_fldK (K := K) rfl (pv 1) rfl))) pss_nil)
      (pss_cons (ps_if (pt_cmpR op_lt (pv 2) (pe_un un_neg (pe_fldK (K := K) rfl (pv 1) rfl)) (nomark _)) (pss_one (ps_ret (pe_un un_neg (pe_fldK (K := K) rfl (pv 1) rfl)))) pss_nil)
      (pss_one (ps_ret (pv 2))))))), ?_⟩
    have nl := List.length_pos_iff.mpr k2
    have nna : na ≠ a := ne_ins hn ha fun q => by cases q
    have nea : ea ≠ a := ne_ins he ha fun q => by cases q
    walk_at "q"
    refine ⟨_, _, _, _, _, rfl, ha, T.c_Listed, T.n_Listed_given_noises, rfl, ?_⟩
    walk_at "q"
    refine ⟨_, _, _, _, _, rfl, ha, T.c_Listed, T.n_Listed_noise_at, rfl, ?_⟩
    walk_at "q"
    refine ⟨ea, _, _, _, rfl, rfl, SqL.of he, at_mod k2 j, ?_⟩
    walk_at "q"
    refine ⟨_, _, _, _, _, rfl, ha, T.c_Listed, T.n_Listed_noise_at, rfl, ?_⟩
    walk_at "q"
    refine ⟨_, _, _, _, _, rfl, ha, T.c_Listed, T.n_Listed_given_noises, rfl, ?_⟩
    walk_at "q"
    refine ⟨ea, _, rfl, .inl (SqL.of he), ?_⟩
    walk_at "q"
    refine r_I (by rw [List.length_map]; omega) ?_
    rw [List.length_map, mod_next]
    walk_at "q"
    refine ⟨_, _, _, _, rfl, ha, T.c_Listed, T.n_Listed_noise_at, (show (4 : Nat) < 1000 by decide), ?_⟩
    walk_at "q"
    generalize hu : upd H a _ = H1
    have q1 : KpA a H H1 := by rw [← hu]; exact KpA.upd
    have h1 : PenAt (.lst ns es i (j + 1)) a ⟨dx, na, ea⟩ H1 := ⟨by rw [← hu, upd_same]; rfl, q1 _ _ nna hn, q1 _ _ nea he⟩
    obtain ⟨ds, hs2⟩ := hs.kp' pa q1
    have hh := h _ q1 h1
    revert hh
    show Q (.int (clampI (es.getD (j % es.length) 0) z.e)) H1 → _
    unfold clampI
    intro hh
    refine ⟨_, _, _, _, _, rfl, hs2, T.c_Sizes, T.n_Sizes_spread, rfl, ?_⟩
    walk_at "q"
    refine r_ite (fun c => ?_) fun c => ?_
    · walk_at "q"
      refine ⟨_, _, _, _, _, rfl, hs2, T.c_Sizes, T.n_Sizes_spread, rfl, ?_⟩
      walk_at "q"
      rw [if_pos (by omega)] at hh
      exact hh
    · rw [if_neg (by omega)] at hh
      walk_at "q"
      refine ⟨_, _, _, _, _, rfl, hs2, T.c_Sizes, T.n_Sizes_spread, rfl, ?_⟩
      walk_at "q"
      refine r_ite (fun c => ?_) fun c => ?_
      · walk_at "q"
        refine ⟨_, _, _, _, _, rfl, hs2, T.c_Sizes, T.n_Sizes_spread, rfl, ?_⟩
        walk_at "q"
        rw [if_pos (by omega)] at hh
        exact hh
      · walk_at "q"
        rw [if_neg (by omega)] at hh
        exact hh
theorem ok_Ltwin (T : Txt K mg) (c_Listed : C8.Mak P w K mg base 3 "Listed" 720 spListed []) : C8.Met P w K mg base 5 720 "twin" (spL spTwin) [] := by
  have S : FnScope ["self", "other"] ["self"] (C8.fnScope (meth 50 3)) := C8.fnScope_by (by decide +kernel)
  refine met_of T.f_Listed_twin T.c_Listed T.m_Listed_twin S (fun _ _ _ _ _ _ us hl => match us, hl with | [_], _ => rfl) (fun vs H Q E h => ?_) (fun cdv A outer s H vs Q E hr h => ?_)
  · obtain ⟨ns, es, i, j, a, l, rfl, _⟩ := h
    rfl
  · obtain ⟨ns, es, i, j, a, ⟨da, na, ea⟩, rfl, pa, hok, h⟩ := h
    obtain ⟨ha, hn, he⟩ := id pa
    refine ⟨_, (pss_cons (ps_set (i := 1) S.nd rfl (Or.inl rfl) (C8.pe_mk c_Listed hr (by decide) rfl (pa_cons (pe_fldK (K := K) rfl (pv 0) rfl) (pa_cons (pe_fldK (K := K) rfl (pv 0) rfl) pa_nil))))
      (pss_cons (ps_fld (pv 1) (pe_fldK (K := K) rfl (pv 0) rfl) rfl)
      (pss_cons (ps_fld (pv 1) (pe_fldK (K := K) rfl (pv 0) rfl) rfl)
      (pss_one (ps_ret (pv 1)))))), ?_⟩
    walk_at "q"
    refine ⟨_, _, _, _, _, rfl, ha, T.c_Listed, T.n_Listed_given_numbers, rfl, ?_⟩
    walk_at "q"
    refine ⟨_, _, _, _, _, rfl, ha, T.c_Listed, T.n_Listed_given_noises, rfl, ?_⟩
    walk_at "q"
    intro x dx hx hd ne
    have s1 := made_new (o := .ins 720 dx []) (u := .own x) hx hd ne
    refine ⟨x, dx, na, ea, ns, es, rfl, upd_same, .inl (s1 _ _ hn), .inl (s1 _ _ he), hok, fun l2 H2 k2 p2 => ⟨rfl, ?_⟩⟩
    generalize hu : upd (upd H dx _) x _ = H1 at s1 k2
    have hx1 : H1 x = some (.ins 720 dx []) := by rw [← hu]; exact upd_same
    clear hu
    obtain ⟨dx2, n2, e2⟩ := l2
    obtain ⟨hx2, hn2, he2⟩ := p2
    have nxa : a ≠ x := fun e => by rw [e, hx] at ha; cases ha
    have nnx : n2 ≠ x := ne_ins hn2 hx2 fun q => by cases q
    have nex : e2 ≠ x := ne_ins he2 hx2 fun q => by cases q
    have ha2 := k2 _ _ nxa (s1 _ _ ha)
    walk_at "q"
    refine ⟨_, _, _, _, _, rfl, ha2, T.c_Listed, T.n_Listed_number_at, rfl, ?_⟩
    walk_at "q"
    refine ⟨_, _, _, _, rfl, hx2, T.c_Listed, T.n_Listed_number_at, (show (4 : Nat) < 1000 by decide), ?_⟩
    walk_at "q"
    refine ⟨_, _, _, _, _, rfl, (by rw [upd_ne nxa]; exact ha2), T.c_Listed, T.n_Listed_noise_at, rfl, ?_⟩
    walk_at "q"
    refine ⟨_, _, _, _, rfl, upd_same, T.c_Listed, T.n_Listed_noise_at, (show (4 : Nat) < 1000 by decide), ?_⟩
    walk_at "q"
    rw [upd_upd]
    refine h x ⟨dx2, n2, e2⟩ _ hx (fun b o e => ?_) ⟨?_, ?_, ?_⟩
    · have : b ≠ x := fun q => by rw [q, hx] at e; cases e
      rw [upd_ne this]
      exact k2 _ _ this (s1 _ _ e)
    · rw [upd_same]; rfl
    · rw [upd_ne nnx]; exact hn2
    · rw [upd_ne nex]; exact he2
end
end K20

set_option Elab.async false
set_option linter.all false
set_option maxRecDepth 100000
set_option maxHeartbeats 4000000
namespace K20
open PySem PySem.Spec PyProof.Rows L2
/-! ### methods called with keywords; calls that may raise -/
theorem KBn.all {K : Fr} {fd : FuncData} {ps ks : List Str} {n : Nat} {g : List Value → List Value → List Value} {gV : List V → List V → List V} (h : ∀ us ws : List Value, us.length = n → ws.length = ks.length → bindArgs fd ⟨us, ks.zip ws⟩ = pure (ps.zip (g us ws)))
    (rel : ∀ {vs : List V} {us : List Value} {zs : List V} {ws : List Value}, Vals vs us → Vals zs ws → Vals (gV vs zs) (g us ws)) : KBn K fd ps n ks g gV := ⟨fun s us ws _ l1 l2 => .of_eq (h us ws l1 l2), rel⟩
/-- a method for calls with n values and keywords ks -/
structure MetK (CX : CXT) (P : Program) (w : World) (K : Fr) (mg : Str → Option Value) (base : Heap) (k : Nat) (C : Addr) (m : Str) (sp : Sp) (n : Nat) (ks : List Str) (gV : List V → List V → List V) : Prop where
  ex : ∃ (f : Addr) (fd : FuncData) (ps : List Str) (g : List Value → List Value → List Value), Cls K C ∧ Meth K C m f ∧ FnOk P w K mg base CX k f fd ps sp ∧ KBn K fd ps (n + 1) ks g gV
/-- o.m(e, .., k = v, ..) -/
def tMethK (C : Addr) (m : Str) (n j : Nat) (sp : Sp) (gV : List V → List V → List V) (E : L2.St → XK) (ta : TE) (t tk : TA) : TE := fun σ H Q => ta σ H fun x H1 => ∃ a dx fs, x = .ref a ∧ H1 a = some (.ins C dx fs) ∧ fs.lookup m = none ∧
  t σ H1 fun vs H2 => tk σ H2 fun zs H3 => vs.length = n ∧ zs.length = j ∧ sp (gV (x :: vs) zs) H3 Q (E σ)
section
variable {X : Cx} {CX : CXT} {j k n : Nat} {C f : Addr} {fd : FuncData} {x m : Str} {sp : Sp} {ps ks : List Str} {E : L2.St → XK} {p pos apos : Pos} {e o : Expr} {es : List Expr} {kws : List Keyword} {ta : TE} {t tk : TA} {g : List Value → List Value → List Value} {gV : List V → List V → List V}
theorem run_fnNS {pins : List (Addr × Obj)} {σ : L2.St} {H : Hp} {s : Shared} {Q : VK} {us ws : List Value} {vs zs : List V} (F : FnOk X.prog X.w X.K X.mg X.base CX k f fd ps sp) (hr : Room k X.A) (hb : KBn X.K fd ps n ks g gV) (hx : PassesAt CX X σ (E σ))
    (I : Inv X pins σ H s) (r : Vals vs us) (rz : Vals zs ws) (l1 : vs.length = n) (l2 : zs.length = ks.length) (h : sp (gV vs zs) H Q (E σ)) : wpAny (model X.prog X.w) X.A (call (.ref f) us (ks.zip ws)) (EP X pins σ Q) X.xe s := by
  have r2 := hb.rel r rz
  refine wpAny_call (codeAny_mono (F.run X.A X.stack s H ⟨us, ks.zip ws⟩ (g us ws) (gV vs zs) Q (E σ) hr I.env0 (hb.to s us ws I.kIn (r.length.symm.trans l1) (rz.length.symm.trans l2)) r2 h) fun r s' hq => ?_)
  cases r with
  | error e => exact hx pins H s e s' I hq
  | ok fl =>
    cases fl with
    | ret u => exact I.after hq
    | next => exact False.elim hq
    | brk => exact False.elim hq
    | cont => exact False.elim hq
theorem pe_mtK {pl : Sem Bool} (c : MetK CX X.prog X.w X.K X.mg X.base k C m sp n ks gV) (hr : Room j X.A) (hk : k ≤ j) (hx : ∀ σ, PassesAt CX X σ (E σ)) (he : PE X o ta) (ha : PA X (e :: es) t) (hkw : PK X kws tk)
    (hall : (backToKw pos (keywordEach kws X.env)).all (·.1.isSome) = true := by rfl) (hks : (backToKw pos (keywordEach kws X.env)).filterMap (·.1) = ks := by rfl)
    (hst : starEach (e :: es) X.env = (false, eval e X.env) :: starEach es X.env := by rfl) (hpl : ((backTo pos (starEach (e :: es) X.env)).any (·.1) || (backToKw pos (keywordEach kws X.env)).any (·.1.isNone)) = false := by rfl)
    (ht : eval (.Call (.Attribute o m apos) (e :: es) kws pos) X.env = (do
      let ov ← eval o X.env
      standAt apos.atName
      let (f, first) ← holding [ov] (getMethod ov m pl)
      callWith pos f first (backTo pos (starEach (e :: es) X.env)) (backToKw pos (keywordEach kws X.env))) := by rfl) :
    PE X (.Call (.Attribute o m apos) (e :: es) kws pos) (tMethK C m n ks.length sp gV E ta t tk) := by
  obtain ⟨f, fd, ps, g, hc, hm, F, hb⟩ := c.ex
  refine ⟨fun pins s σ H Q I h => ?_⟩
  refine PySem.W.methodCall_KW (pl := pl) (thn (he.run pins s σ H _ I h) fun u s1 ⟨x, H1, I1, rx, a, dx, fs, ex, ea, l, q⟩ => ?_) ht
  subst ex
  obtain rfl : u = Value.ref a := rx
  refine getmeth_ok I1 ea hc hm l ?_
  refine PySem.W.callWith_KW (first := [.ref a]) (h₀ := X.base) I.ok.mod.kin hm.kp hall (thn (ha.run pos pins s1 σ H1 _ I1 q) fun us s2 ⟨vs, H2, I2, r, q2⟩ => ?_) hpl hst
  refine thn (hkw.run pos pins s2 σ H2 _ I2 q2) fun ws s3 ⟨zs, H3, I3, rz, l1, l2, q3⟩ => ⟨I3.kIn, ?_⟩
  rw [hks]
  exact run_fnNS (us := .ref a :: us) (vs := .ref a :: vs) F (hr.mono hk) hb (hx σ) I3 (.cons rfl r) rz (by simp [l1]) l2 q3
theorem pe_mtK0 {pl : Sem Bool} (c : MetK CX X.prog X.w X.K X.mg X.base k C m sp 0 ks gV) (hr : Room j X.A) (hk : k ≤ j) (hx : ∀ σ, PassesAt CX X σ (E σ)) (he : PE X o ta) (hkw : PK X kws tk)
    (hall : (backToKw pos (keywordEach kws X.env)).all (·.1.isSome) = true := by rfl) (hks : (backToKw pos (keywordEach kws X.env)).filterMap (·.1) = ks := by rfl)
    (hpl : ((backTo pos (starEach [] X.env)).any (·.1) || (backToKw pos (keywordEach kws X.env)).any (·.1.isNone)) = false := by rfl)
    (ht : eval (.Call (.Attribute o m apos) [] kws pos) X.env = (do
      let ov ← eval o X.env
      standAt apos.atName
      let (f, first) ← holding [ov] (getMethod ov m pl)
      callWith pos f first (backTo pos (starEach [] X.env)) (backToKw pos (keywordEach kws X.env))) := by rfl) :
    PE X (.Call (.Attribute o m apos) [] kws pos) (tMethK C m 0 ks.length sp gV E ta tNil tk) := by
  obtain ⟨f, fd, ps, g, hc, hm, F, hb⟩ := c.ex
  refine ⟨fun pins s σ H Q I h => ?_⟩
  refine PySem.W.methodCall_KW (pl := pl) (thn (he.run pins s σ H _ I h) fun u s1 ⟨x, H1, I1, rx, a, dx, fs, ex, ea, l, q⟩ => ?_) ht
  subst ex
  obtain rfl : u = Value.ref a := rx
  refine getmeth_ok I1 ea hc hm l ?_
  refine PySem.W.callWith_KW0 (first := [.ref a]) (h₀ := X.base) I.ok.mod.kin hm.kp hall ?_ hpl
  refine thn (hkw.run pos pins s1 σ H1 _ I1 q) fun ws s3 ⟨zs, H3, I3, rz, l1, l2, q3⟩ => ⟨I3.kIn, ?_⟩
  rw [hks]
  exact run_fnNS (us := [.ref a]) (vs := [.ref a]) F (hr.mono hk) hb (hx σ) I3 (.cons rfl .nil) rz rfl l2 q3
/-- a method that may raise, positional values -/
structure MetX (CX : CXT) (P : Program) (w : World) (K : Fr) (mg : Str → Option Value) (base : Heap) (k : Nat) (C : Addr) (m : Str) (sp : Sp) : Prop where
  ex : ∃ (f : Addr) (fd : FuncData) (ps : List Str), Cls K C ∧ Meth K C m f ∧ FnOk P w K mg base CX k f fd ps sp ∧ Binds K fd ps []
def tMethS (C : Addr) (m : Str) (sp : Sp) (E : L2.St → XK) (ta : TE) (t : TA) : TE := fun σ H Q => ta σ H fun x H1 => ∃ a dx fs, x = .ref a ∧ H1 a = some (.ins C dx fs) ∧ fs.lookup m = none ∧ t σ H1 fun vs H2 => sp (x :: vs) H2 Q (E σ)
theorem pe_mtS {pl : Sem Bool} (c : MetX CX X.prog X.w X.K X.mg X.base k C m sp) (hr : Room j X.A) (hk : k ≤ j) (hx : ∀ σ, PassesAt CX X σ (E σ)) (he : PE X o ta) (ha : PA X (e :: es) t)
    (hst : starEach (e :: es) X.env = (false, eval e X.env) :: starEach es X.env := by rfl) (hpl : (backTo pos (starEach es X.env)).any (·.1) = false := by rfl)
    (ht : eval (.Call (.Attribute o m apos) (e :: es) [] pos) X.env = (do
      let ov ← eval o X.env
      standAt apos.atName
      let (f, first) ← holding [ov] (getMethod ov m pl)
      callWith pos f first (backTo pos (starEach (e :: es) X.env)) (backToKw pos (keywordEach [] X.env))) := by rfl) :
    PE X (.Call (.Attribute o m apos) (e :: es) [] pos) (tMethS C m sp E ta t) := by
  obtain ⟨f, fd, ps, hc, hm, F, hb⟩ := c.ex
  refine ⟨fun pins s σ H Q I h => ?_⟩
  refine PySem.W.methodCall_KW (pl := pl) (thn (he.run pins s σ H _ I h) fun u s1 ⟨x, H1, I1, rx, a, dx, fs, ex, ea, l, q⟩ => ?_) ht
  subst ex
  obtain rfl : u = Value.ref a := rx
  refine getmeth_ok I1 ea hc hm l ?_
  refine PySem.W.callWith_K (first := [.ref a]) (h₀ := X.base) I.ok.mod.kin hm.kp (thn (ha.run pos pins s1 σ H1 _ I1 q) fun us s2 ⟨vs, H2, I2, r, q2⟩ => ⟨I2.kIn, ?_⟩) hst hpl
  exact run_fnS (us := .ref a :: us) (vs := .ref a :: vs) F (hr.mono hk) hb (hx σ) I2 (.cons rfl r) q2
theorem pass0' (X : Cx) (σ : L2.St) : PassesAt C8.CX0 X σ C8.E0 := fun _ _ _ _ _ _ h => h.elim
end
theorem r_methK {C : Addr} {m : Str} {n j : Nat} {sp : Sp} {gV : List V → List V → List V} {E : L2.St → XK} {ta : TE} {t tk : TA} {σ : L2.St} {H : Hp} {Q : VK} (h : ta σ H fun x H1 => ∃ a dx fs, x = .ref a ∧ H1 a = some (.ins C dx fs) ∧ fs.lookup m = none ∧
  t σ H1 fun vs H2 => tk σ H2 fun zs H3 => vs.length = n ∧ zs.length = j ∧ sp (gV (x :: vs) zs) H3 Q (E σ)) : tMethK C m n j sp gV E ta t tk σ H Q := h
theorem r_methS {C : Addr} {m : Str} {sp : Sp} {E : L2.St → XK} {ta : TE} {t : TA} {σ : L2.St} {H : Hp} {Q : VK} (h : ta σ H fun x H1 => ∃ a dx fs, x = .ref a ∧ H1 a = some (.ins C dx fs) ∧ fs.lookup m = none ∧ t σ H1 fun vs H2 => sp (x :: vs) H2 Q (E σ)) : tMethS C m sp E ta t σ H Q := h
end K20

set_option Elab.async false
set_option linter.all false
set_option maxRecDepth 100000
set_option maxHeartbeats 4000000
namespace K20
open PySem PySem.Spec PyProof.Rows L2
/-! ### != of instances with an own == -/
section
variable {prog : Program} {w : World} {A : Around} {E : Value → Shared → Prop} {s : Shared} {K : Fr} {x y C f : Addr} {ox : Obj} {od : Option Obj}
theorem ifBound_ne {M : Model} {args : List Value} {Q : Option Value → Shared → Prop} (X : K.In s.heap) (I : PySem.W.InstAt s.heap x ox C od) (hs : PySem.W.findIn K (.ref C) "__ne__" = some (some (.builtin "object.__ne__")))
    (h : wpAny M A (call (.builtin "object.__ne__") (.ref x :: args)) (fun v => Q (some v)) E s) : wpAny M A (callSpecialIfBound? (.ref x) "__ne__" args) Q E s := by
  simp only [callSpecialIfBound?, bindSpecialIfBound?]
  refine wpAny_holding (wpAny_bind (wpAny_bind (wpAny_bind (I.type.here ((PySem.W.looks_findIn X hs).here ?_)))))
  refine wpAny_bind (wpAny_askSetting (wpAny_ite ?_))
  have fin : wpAny M A (call (.builtin "object.__ne__") ([.ref x] ++ args) >>= fun v => pure (some v)) Q E s := wpAny_bind (wpAny_mono h (fun v s' h' => wpAny_pure h') fun _ _ h' => h')
  split
  · exact wpAny_bind (wpAny_of_eq (F.cmp_object.ne.bind _) (wpAny_pure (by exact fin)))
  · exact wpAny_tryCatch (wpAny_bind (wpAny_of_eq (F.cmp_object.ne.bind _) (wpAny_pure (by exact fin))))
theorem objNe_K (X : K.In s.heap) (I : PySem.W.InstAt s.heap x ox C od) (he : PySem.W.findIn K (.ref C) "__eq__" = some (some (.ref f))) (hf : PySem.W.isFn K (.ref f) = true) (hu : A.units < cLine) {Q : Fin → Shared → Prop}
    (hcall : wpAny (model prog w) A (call (.ref f) [.ref x, .ref y]) (fun v s' => ∃ b, v = .bool b ∧ Q (.done (.ret (.bool (!b)))) s') E s) :
    wpAny (model prog w) A (Builtin.«object.__ne__» ⟨[.ref x, .ref y], []⟩) Q E s := by
  unfold Builtin.«object.__ne__»
  repeat (first
    | with_reducible refine wpAny_cRoomFor hu ?_
    | (refine wpAny_bind (m := callSpecialIfBound? (.ref x) (Str.ofString "__eq__") [.ref y])
        (PySem.W.ifBound_K X I he hf (wpAny_mono hcall (fun r s' hr => by
          obtain ⟨b, rfl, hq⟩ := hr
          repeat (first | exact hq | exact wpAny_pure hq | exact wpAny_truthy_bool hq | (refine wpAny_bind (m := truthy (.bool _)) (wpAny_truthy_bool ?_)) | wp_step)) fun _ _ e => e)))
    | wp_step)
theorem ne_K {Q : Value → Shared → Prop} (X : K.In s.heap) (I : PySem.W.InstAt s.heap x ox C od) {oy : Obj} {odY : Option Obj} (J : PySem.W.InstAt s.heap y oy C odY) (hm : PySem.W.mroIn K C (.type "object") = some true) (hne : PySem.W.findIn K (.ref C) "__ne__" = some (some (.builtin "object.__ne__")))
    (he : PySem.W.findIn K (.ref C) "__eq__" = some (some (.ref f))) (hf : PySem.W.isFn K (.ref f) = true) (hu : A.units + 1 < cLine)
    (hcall : wpAny (model prog w) A.in1 (call (.ref f) [.ref x, .ref y]) (fun v s' => ∃ b, v = .bool b ∧ Q (.bool (!b)) s') E s) :
    wpAny (model prog w) A (richCompare .NotEq (.ref x) (.ref y)) Q E s := by
  have one : wpAny (model prog w) A (tryCompare (.ref x) "__ne__" (.ref y)) (fun r s' => ∃ v, r = some v ∧ Q v s') E s := by
    unfold tryCompare
    refine wpAny_bind (ifBound_ne X I hne (wpAny_call (codeAny_call_builtin F.cmp_object.ne.plain F.cmpEntry_ne (PySem.W.check_slot F.cmpKind_ne F.cmpSplit_ne (I.type.andThen (PySem.W.looks_mroIn X hm)) (F.cmpArgs_ne _ _)
      (objNe_K (A := A.in1) X I he hf hu (wpAny_mono hcall (fun v s' hv => ?_) fun _ _ e => e))))))
    obtain ⟨b, rfl, hq⟩ := hv
    exact ⟨b, rfl, wpAny_pure ⟨_, rfl, hq⟩⟩
  unfold richCompare
  simp only [oneThing_ref]
  refine wpAny_holding (wpAny_bind (wpAny_cRoomFor (by omega) ?_))
  rw [cmpInfo_NotEq]
  dsimp only
  refine wpAny_bind (I.type.here (wpAny_bind (J.type.here ?_)))
  rw [show (Value.ref C != Value.ref C) = false from by simp]
  simp only [Bool.false_eq_true, if_false]
  refine wpAny_bind (wpAny_pure ?_)
  simp only [Bool.false_eq_true, if_false]
  refine wpAny_bind (wpAny_mono one (fun r s' z => ?_) fun _ _ e => e)
  obtain ⟨v, rfl, hq⟩ := z
  exact wpAny_pure hq
end
def rNeG (D : Eqv) : R2 := fun x y H Q => D x y H ∧ ∀ H', Ext H H' → Q (.bl false) H'
theorem op_neG {X : Cx} {n : Nat} {CX : CXT} {C f : Addr} {fd : FuncData} {ps : List Str} {R : Addr → Addr → Hp → Prop} {E : XK} (F : FnOk X.prog X.w X.K X.mg X.base CX n f fd ps (spEq R))
    (hs : PySem.W.findIn X.K (.ref C) "__eq__" = some (some (.ref f)) ∧ PySem.W.isFn X.K (.ref f) = true) (hm : PySem.W.mroIn X.K C (.type "object") = some true) (hne : PySem.W.findIn X.K (.ref C) "__ne__" = some (some (.builtin "object.__ne__")))
    (hb : Binds X.K fd ps []) (hx : Passes CX X E) (hr : Room (n + 1) X.A) : OpR X (compareOp .NotEq) (rNeG (DIns C R)) := by
  intro pins s σ H x y v u Q I rx ry hq
  obtain ⟨⟨a, b, dx, dy, fs, gs, rfl, rfl, ha, hb', hr'⟩, q⟩ := hq
  cases rx
  cases ry
  have sb : Sub X (n + 1) X.A := ⟨hr, rfl⟩
  obtain ⟨mA, J, _⟩ := ins_get I.hok ha
  obtain ⟨mB, J', _⟩ := ins_get I.hok hb'
  obtain ⟨od, J, _⟩ := J.look
  obtain ⟨od', J', _⟩ := J'.look
  show wpAny (model X.prog X.w) X.A (richCompare .NotEq (.ref a) (.ref b)) (EP X pins σ Q) X.xe s
  refine ne_K I.kIn J J' hm hne hs.1 hs.2 (by have := sb.in1.room.units0; exact this) ?_
  have hsp : spEq R [.ref a, .ref b] H (fun v H' => v = .bl true ∧ Ext H H') E := ⟨a, b, rfl, hr', fun H' e => ⟨rfl, e⟩⟩
  have e0 : Env0 X.prog X.w X.K X.mg X.base X.A.in1 X.stack s H := by
    have e := I.env0
    exact ⟨by rw [sb.in1.fr]; exact e.frames, e.mod, e.bs, e.bsz, e.funs, e.frf, e.hok, e.bare⟩
  have hl := F.len _ _ _ _ hsp
  have r2 : Vals [V.ref a, V.ref b] [Value.ref a, Value.ref b] := .cons rfl (.cons rfl .nil)
  refine wpAny_call (codeAny_mono (F.run X.A.in1 X.stack s H ⟨[.ref a, .ref b], []⟩ [.ref a, .ref b] [.ref a, .ref b] _ E sb.in1.room e0 (by
    have := hb s [.ref a, .ref b] I.kIn (by simpa using hl)
    simpa using this) r2 hsp) fun r s' hq => ?_)
  cases r with
  | error e => exact hx pins σ H s e s' I hq
  | ok fl =>
    cases fl with
    | ret w =>
      obtain ⟨z, H', I', rz, ez, ex⟩ := I.after hq
      subst ez
      cases rz
      exact ⟨true, rfl, .bl false, H', I', rfl, q H' ex⟩
    | next => exact False.elim hq
    | brk => exact False.elim hq
    | cont => exact False.elim hq
end K20

set_option Elab.async false
set_option linter.all false
set_option maxRecDepth 100000
set_option maxHeartbeats 4000000
namespace K20
open PySem PySem.Spec PyProof.Rows L2
local macro_rules | `(tactic| walk_at "q1") => `(tactic| first
  | with_reducible refine r_seq ?_ | with_reducible refine r_asg ?_ | with_reducible refine r_name ?_ | with_reducible refine r_ret ?_ | with_reducible refine r_ifS ?_ | with_reducible refine r_next ?_ | with_reducible refine r_drop ?_
  | ((with_reducible show tVar _ _ _ _); refine ⟨_, rfl, ?_⟩) | with_reducible refine r_c ?_ | with_reducible refine r_op ?_ | with_reducible refine r_un ?_ | with_reducible refine r_I0 ?_ | with_reducible refine r_U ?_
  | with_reducible refine r_eqI ?_ | with_reducible refine r_neI ?_ | with_reducible refine r_neB ?_ | with_reducible refine r_cb ?_ | with_reducible refine r_cons ?_ | with_reducible refine r_nil ?_ | with_reducible refine r_test ?_ | with_reducible refine r_tB ?_
  | with_reducible refine r_bl ?_ | with_reducible refine r_not ?_ | with_reducible refine r_notV ?_ | with_reducible refine r_and ?_ | with_reducible refine r_or ?_ | with_reducible refine r_andV ?_ | with_reducible refine r_orV ?_ | with_reducible refine r_if ?_
  | with_reducible refine r_T ?_ | with_reducible refine r_F ?_ | with_reducible refine r_NT ?_ | with_reducible refine r_NF ?_ | with_reducible refine r_call ?_ | with_reducible refine r_meth ?_ | with_reducible refine r_int1 ?_ | with_reducible refine r_fld ?_
  | with_reducible refine r_tup ?_ | with_reducible refine r_lst ?_ | with_reducible refine r_par ?_ | with_reducible refine r_par3 ?_ | with_reducible refine r_two ?_ | with_reducible refine r_three ?_ | with_reducible refine r_abs ?_ | with_reducible refine r_max ?_
  | with_reducible refine r_cut ?_ | with_reducible refine r_lc ?_ | with_reducible refine r_lc2 ?_ | with_reducible refine r_mkB ?_ | with_reducible refine r_for ?_ | with_reducible refine r_iList ?_ | with_reducible refine r_iTup ?_ | with_reducible refine r_revL ?_ | with_reducible refine r_star ?_ | with_reducible refine r_bits ?_ | with_reducible refine r_iRng ?_ | with_reducible refine r_iEnum ?_ | with_reducible refine r_iZip ?_ | with_reducible refine r_sub ?_ | with_reducible refine r_sfld ?_ | with_reducible refine r_bm ?_
  | with_reducible refine r_methK ?_ | with_reducible refine r_methS ?_ | with_reducible refine r_make ?_ | with_reducible refine r_mod ?_ | with_reducible refine r_gtup ?_ | with_reducible refine r_gcons ?_ | with_reducible refine r_gnil ?_ | with_reducible refine r_slc ?_ | with_reducible refine r_part ?_ | with_reducible refine r_noPart ?_)
local macro_rules | `(tactic| walk_at "nw") => `(tactic| (intro p hp; generalize hu : upd _ p _ = H1; obtain ⟨s1, hp1⟩ := nwx hp hu; clear hu))
local macro_rules | `(tactic| walk_at "q") => `(tactic| repeat walk_at "q1")
section
variable {P : Program} {w : World} {K : Fr} {mg : Str → Option Value} {base : Heap}
/-! ### pens of two classes; covers drawn -/
def tPen1 (i j : Nat) (sp : Pen → Sp) : TE := fun σ H Q => ∃ a p l so, σ[i]? = some (some (.ref a)) ∧ σ[j]? = some (some (.ref so)) ∧ PenAt p a l H ∧ sp p [.ref a, .ref so] H Q C8.E0
theorem pe_pen1 {X : Cx} {m : Str} {i j k1 k2 r : Nat} {sp : Pen → Sp} {o e : Expr} {pl : Sem Bool} {pos apos : Pos} (c1 : C8.Met X.prog X.w X.K X.mg X.base k1 678 m (spM sp) []) (c2 : C8.Met X.prog X.w X.K X.mg X.base k2 720 m (spL sp) [])
    (hr : Room r X.A) (h1 : k1 ≤ r) (h2 : k2 ≤ r) (l1 : ∀ v : V, List.lookup m [(("_state" : Str), v)] = none) (l2 : ∀ a b c d : V, List.lookup m [(("_given_numbers" : Str), a), ("_given_noises", b), ("_number_at", c), ("_noise_at", d)] = none)
    (ho : PE X o (tVar i)) (he : PE X e (tVar j))
    (hst : starEach [e] X.env = (false, eval e X.env) :: starEach [] X.env := by rfl) (hpl : (backTo pos (starEach [] X.env)).any (·.1) = false := by rfl)
    (ht : eval (.Call (.Attribute o m apos) [e] [] pos) X.env = (do
      let ov ← eval o X.env
      standAt apos.atName
      let (f, first) ← holding [ov] (getMethod ov m pl)
      callWith pos f first (backTo pos (starEach [e] X.env)) (backToKw pos (keywordEach [] X.env))) := by rfl) :
    PE X (.Call (.Attribute o m apos) [e] [] pos) (tPen1 i j sp) := by
  refine PE.imp (pe_or (C8.pe_mt (pl := pl) c1 hr h1 ho (pa_cons he pa_nil hst) hst hpl ht) (C8.pe_mt (pl := pl) c2 hr h2 ho (pa_cons he pa_nil hst) hst hpl ht)) fun σ H Q h => ?_
  obtain ⟨a, p, l, so, e1, e2, hp, h⟩ := h
  cases p with
  | made s => exact .inl ⟨_, e1, a, _, _, rfl, hp.1, l1 _, _, e2, s, h⟩
  | lst ns es x y => exact .inr ⟨_, e1, a, _, _, rfl, hp.1, l2 _ _ _ _, _, e2, ns, es, x, y, h⟩
def tPen0 (i : Nat) (sp : Pen → Sp) : TE := fun σ H Q => ∃ a p l, σ[i]? = some (some (.ref a)) ∧ PenAt p a l H ∧ sp p [.ref a] H Q C8.E0
theorem pe_pen0 {X : Cx} {m : Str} {i k1 k2 r : Nat} {sp : Pen → Sp} {o : Expr} {pl : Sem Bool} {pos apos : Pos} (c1 : C8.Met X.prog X.w X.K X.mg X.base k1 678 m (spM sp) []) (c2 : C8.Met X.prog X.w X.K X.mg X.base k2 720 m (spL sp) [])
    (hr : Room r X.A) (h1 : k1 ≤ r) (h2 : k2 ≤ r) (l1 : ∀ v : V, List.lookup m [(("_state" : Str), v)] = none) (l2 : ∀ a b c d : V, List.lookup m [(("_given_numbers" : Str), a), ("_given_noises", b), ("_number_at", c), ("_noise_at", d)] = none)
    (ho : PE X o (tVar i))
    (ht : eval (.Call (.Attribute o m apos) [] [] pos) X.env = (do
      let ov ← eval o X.env
      standAt apos.atName
      let (f, first) ← holding [ov] (getMethod ov m pl)
      callWith pos f first (backTo pos (starEach [] X.env)) (backToKw pos (keywordEach [] X.env))) := by rfl) :
    PE X (.Call (.Attribute o m apos) [] [] pos) (tPen0 i sp) := by
  refine PE.imp (pe_or (C8.pe_mt0 (pl := pl) c1 hr h1 ho ht) (C8.pe_mt0 (pl := pl) c2 hr h2 ho ht)) fun σ H Q h => ?_
  obtain ⟨a, p, l, e1, hp, h⟩ := h
  cases p with
  | made s => exact .inl ⟨_, e1, a, _, _, rfl, hp.1, l1 _, s, h⟩
  | lst ns es x y => exact .inr ⟨_, e1, a, _, _, rfl, hp.1, l2 _ _ _ _, ns, es, x, y, h⟩
/-! what is drawn -/
def maskOf (z : Sz) (p : Pen) : Nat → List Int × Pen
  | 0 => ([], p)
  | n + 1 => ((maskOf z p n).1 ++ [((maskOf z p n).2.resid z).1], ((maskOf z p n).2.resid z).2)
def dotZ (a b : List Int) : Int := (List.zipWith (· * ·) a b).sum
def coverOf (z : Sz) (bs : List Int) (p : Pen) (r : Int) : Cov × Pen :=
  (⟨(maskOf z p z.n).1, (dotZ (maskOf z p z.n).1 bs + r + ((maskOf z p z.n).2.noise z).1) % z.q⟩, ((maskOf z p z.n).2.noise z).2)
def lineOf (z : Sz) (bs : List Int) (t : Int) (p : Pen) : Nat → List Cov × Pen
  | 0 => ([], p)
  | n + 1 => ((lineOf z bs t p n).1 ++ [(coverOf z bs (lineOf z bs t p n).2 (t * z.B ^ n)).1], (coverOf z bs (lineOf z bs t p n).2 (t * z.B ^ n)).2)
def swOf (z : Sz) (bs ts : List Int) (p : Pen) : Nat → List (List Cov) × Pen
  | 0 => ([], p)
  | j + 1 => ((swOf z bs ts p j).1 ++ [(lineOf z bs (ts.getD j 0) (swOf z bs ts p j).2 z.l).1], (lineOf z bs (ts.getD j 0) (swOf z bs ts p j).2 z.l).2)
theorem maskOf_len (z : Sz) (p : Pen) : ∀ n, (maskOf z p n).1.length = n
  | 0 => rfl
  | n + 1 => by
    show ((maskOf z p n).1 ++ [_]).length = n + 1
    rw [List.length_append, maskOf_len z p n]; rfl
theorem maskOf_bd (z : Sz) (p : Pen) : ∀ n, ∀ x ∈ (maskOf z p n).1, 0 ≤ x ∧ x < z.q
  | 0, x, h => by cases h
  | n + 1, x, h => by
    rcases List.mem_append.mp (show x ∈ (maskOf z p n).1 ++ [_] from h) with q | q
    · exact maskOf_bd z p n x q
    · rw [List.mem_singleton.mp q]
      exact Pen.resid_bd
theorem maskOf_ok {z : Sz} {p : Pen} (h : p.Ok) : ∀ n, (maskOf z p n).2.Ok
  | 0 => h
  | n + 1 => Pen.ok_resid (maskOf_ok h n)
theorem coverOf_ok {z : Sz} {bs : List Int} {p : Pen} {r : Int} : (coverOf z bs p r).1.Ok z :=
  ⟨maskOf_len z p z.n, maskOf_bd z p z.n, Int.emod_nonneg _ (by have := z.qpos; omega), Int.emod_lt_of_pos _ z.qpos⟩
theorem coverOf_pok {z : Sz} {bs : List Int} {p : Pen} {r : Int} (h : p.Ok) : (coverOf z bs p r).2.Ok := Pen.ok_noise (maskOf_ok h _)
theorem lineOf_pok {z : Sz} {bs : List Int} {t : Int} {p : Pen} (h : p.Ok) : ∀ n, (lineOf z bs t p n).2.Ok
  | 0 => h
  | n + 1 => coverOf_pok (z := z) (bs := bs) (r := t * z.B ^ n) (lineOf_pok h n)
theorem swOf_pok {z : Sz} {bs ts : List Int} {p : Pen} (h : p.Ok) : ∀ n, (swOf z bs ts p n).2.Ok
  | 0 => h
  | n + 1 => lineOf_pok (swOf_pok h n) _
theorem lineOf_ok {z : Sz} {bs : List Int} {t : Int} {p : Pen} : ∀ n, ∀ c ∈ (lineOf z bs t p n).1, c.Ok z
  | 0, c, h => by cases h
  | n + 1, c, h => by
    rcases List.mem_append.mp (show c ∈ (lineOf z bs t p n).1 ++ [_] from h) with q | q
    · exact lineOf_ok n c q
    · rw [List.mem_singleton.mp q]
      exact coverOf_ok
theorem lineOf_len {z : Sz} {bs : List Int} {t : Int} {p : Pen} : ∀ n, (lineOf z bs t p n).1.length = n
  | 0 => rfl
  | n + 1 => by
    show ((lineOf z bs t p n).1 ++ [_]).length = n + 1
    rw [List.length_append, lineOf_len n]; rfl
theorem swOf_len {z : Sz} {bs ts : List Int} {p : Pen} : ∀ n, (swOf z bs ts p n).1.length = n
  | 0 => rfl
  | n + 1 => by
    show ((swOf z bs ts p n).1 ++ [_]).length = n + 1
    rw [List.length_append, swOf_len n]; rfl
theorem swOf_flat {z : Sz} {bs ts : List Int} {p : Pen} : ∀ n, (swOf z bs ts p n).1.flatten.length = n * z.l
  | 0 => by simp [swOf]
  | n + 1 => by
    show ((swOf z bs ts p n).1 ++ [_]).flatten.length = _
    rw [List.flatten_append, List.length_append, swOf_flat n, Nat.succ_mul]
    simp [lineOf_len]
theorem swOf_ok {z : Sz} {bs ts : List Int} {p : Pen} : ∀ n, ∀ c ∈ (swOf z bs ts p n).1.flatten, c.Ok z
  | 0, c, h => by simp [swOf] at h
  | n + 1, c, h => by
    have h : c ∈ ((swOf z bs ts p n).1 ++ [(lineOf z bs (ts.getD n 0) (swOf z bs ts p n).2 z.l).1]).flatten := h
    rw [List.flatten_append] at h
    rcases List.mem_append.mp h with q | q
    · exact swOf_ok n c q
    · simp at q
      exact lineOf_ok _ c q
/-! keys -/
structure KeyAt (so : Addr) (z : Sz) (bs : List Int) (a : Addr) (H : Hp) : Prop where
  ex : ∃ dx bl pb pp, H a = some (.ins 863 dx [("sizes", .ref so), ("_bits", .ref bl), ("_poly_bits", .ref pb), ("_poly", .ref pp)]) ∧ H bl = some (intL bs)
  sz : SzAt z so H
theorem KeyAt.same {so : Addr} {z : Sz} {bs : List Int} {a : Addr} {H H' : Hp} (h : KeyAt so z bs a H) (s : Same H H') : KeyAt so z bs a H' := let ⟨⟨dx, bl, pb, pp, e, f⟩, k⟩ := h; ⟨⟨dx, bl, pb, pp, s _ _ e, s _ _ f⟩, k.same s⟩
theorem KeyAt.kp {so : Addr} {z : Sz} {bs : List Int} {a b : Addr} {p : Pen} {l : Pl} {H H' : Hp} (h : KeyAt so z bs a H) (hb : PenAt p b l H) (k : KpA b H H') : KeyAt so z bs a H' := by
  obtain ⟨dx, bl, pb, pp, e, f⟩ := h.ex
  obtain ⟨C, dx', fs, eb, c⟩ := hb.ins
  refine ⟨⟨dx, bl, pb, pp, k _ _ (ne_ins e eb fun q => ?_) e, k _ _ (ne_ins f eb fun q => by cases q) f⟩, h.sz.kp' hb k⟩
  injection q with q
  rcases c with c | c <;> rw [c] at q <;> revert q <;> decide
def spKey : Sp := fun vs H Q _ => ∃ (x dx so ba pa : Addr) (z : Sz) (bs ps : List Int), vs = [.ref x, .ref so, .ref ba, .ref pa] ∧ z.Ok ∧ H x = some (.ins 863 dx []) ∧ SzAt z so H ∧ H ba = some (intL bs) ∧ H pa = some (intL ps) ∧ bs.length = z.n ∧ ps.length = z.m ∧
  (∀ b ∈ bs, 0 ≤ b ∧ b ≤ 1) ∧ (∀ b ∈ ps, 0 ≤ b ∧ b ≤ 1) ∧ ∀ H', KpA x H H' → KeyAt so z bs x H' → Q .non H'
theorem ok_Key (T : Txt K mg) (c_check_bits : C8.Cal P w K mg base 4 "check_bits" spBits []) (c_Poly : C8.Mak P w K mg base 3 "Poly" 576 spPoly []) : C8.Mak P w K mg base 5 "Key" 863 spKey [] := by
  have S : FnScope ["self", "sizes", "bits", "poly_bits"] ["self", "sizes", "bits", "poly_bits"] (C8.fnScope (meth 53 0)) := C8.fnScope_by (by decide +kernel)
  refine mak_of T.f_Key_init T.k_Key T.g_Key S (fun _ _ _ _ _ _ us hl => match us, hl with | [_, _, _, _], _ => rfl) (fun vs H Q E h => ?_) (fun cdv A outer s H vs Q E hr h => ?_)
  · obtain ⟨x, dx, so, ba, pa, z, bs, ps, rfl, _⟩ := h
    rfl
  · obtain ⟨x, dx, so, ba, pa, z, bs, ps, rfl, o, hx, hs, hb, hp, l1, l2, b1, b2, h⟩ := h
    refine ⟨_, (pss_cons (ps_expr (C8.pe_c c_check_bits hr (by decide) rfl (pa_cons (pv 2) (pa_cons (pe_fldK (K := K) rfl (pv 1) rfl) pa_nil))))
      (pss_cons (ps_expr (C8.pe_c c_check_bits hr (by decide) rfl (pa_cons (pv 3) (pa_cons (pe_fldK (K := K) rfl (pv 1) rfl) pa_nil))))
      (pss_cons (ps_fld (pv 0) (pv 1) rfl)
      (pss_cons (ps_fld (pv 0) (pe_callTy call_list_of rfl T.z_list (by decide +kernel) (pa_cons (pv 2) pa_nil)) rfl)
      (pss_cons (ps_fld (pv 0) (pe_callTy call_list_of rfl T.z_list (by decide +kernel) (pa_cons (pv 3) pa_nil)) rfl)
      (pss_one (ps_fld (pv 0) (C8.pe_mk c_Poly hr (by decide) rfl (pa_cons (pv 1) (pa_cons (pe_fldK (K := K) rfl (pv 0) rfl) pa_nil))) rfl))))))), ?_⟩
    obtain ⟨ds, hs⟩ := hs
    have nb : ba ≠ x := ne_ins hb hx fun q => by cases q
    have np : pa ≠ x := ne_ins hp hx fun q => by cases q
    have ns : so ≠ x := ne_ins hs hx (fun e => by injection e with e; revert e; decide)
    walk_at "q"
    refine ⟨_, _, _, _, _, rfl, hs, T.c_Sizes, T.n_Sizes_length, rfl, ?_⟩
    walk_at "q"
    refine ⟨ba, bs, by rw [l1]; rfl, hb, b1, fun H1 s1 => ?_⟩
    walk_at "q"
    refine ⟨_, _, _, _, _, rfl, (s1 _ _ hs), T.c_Sizes, T.n_Sizes_ring, rfl, ?_⟩
    walk_at "q"
    refine ⟨pa, ps, by rw [l2]; rfl, s1 _ _ hp, b2, fun H2 s2 => ?_⟩
    have s := s1.trans s2
    have hx2 := s _ _ hx
    have hs2 := s _ _ hs
    walk_at "q"
    refine ⟨_, _, _, _, rfl, hx2, T.c_Key, T.n_Key_sizes, (show (0 : Nat) < 1000 by decide), ?_⟩
    walk_at "q"
    refine ⟨ba, _, rfl, .inl (SqL.of (by rw [upd_ne nb]; exact s _ _ hb)), fun p3 n3 => ?_⟩
    generalize hu : upd (upd _ _ _) p3 _ = H3
    have n3x : p3 ≠ x := fun e => by rw [e, upd_same] at n3; cases n3
    obtain ⟨s3, hp3⟩ := nwx n3 hu
    have k3 : KpA x H H3 := (KpA.of s).trans (KpA.upd.trans (KpA.of s3))
    have hx3 : H3 x = some (.ins 863 dx [("sizes", .ref so)]) := s3 _ _ upd_same
    clear hu n3 s3
    walk_at "q"
    refine ⟨_, _, _, _, rfl, hx3, T.c_Key, T.n_Key_bits, (show (1 : Nat) < 1000 by decide), ?_⟩
    walk_at "q"
    refine ⟨pa, _, rfl, .inl (SqL.of (by rw [upd_ne np]; exact k3 _ _ np hp)), fun p4 n4 => ?_⟩
    generalize hu : upd (upd _ _ _) p4 _ = H4
    have n4x : p4 ≠ x := fun e => by rw [e, upd_same] at n4; cases n4
    obtain ⟨s4, hp4⟩ := nwx n4 hu
    have k34 : KpA x H3 H4 := KpA.upd.trans (KpA.of s4)
    have hx4 : H4 x = some (.ins 863 dx [("sizes", .ref so), ("_bits", .ref p3)]) := s4 _ _ upd_same
    clear hu n4 s4
    walk_at "q"
    refine ⟨_, _, _, _, rfl, hx4, T.c_Key, T.n_Key_poly_bits, (show (2 : Nat) < 1000 by decide), ?_⟩
    walk_at "q"
    refine ⟨_, _, _, _, _, rfl, upd_same, T.c_Key, T.n_Key_poly_bits, rfl, ?_⟩
    walk_at "q"
    intro y dy ny nd ne
    generalize hu : upd H4 x _ = H5 at ny nd
    have k45 : KpA x H4 H5 := by rw [← hu]; exact KpA.upd
    have hx5 : H5 x = some (.ins 863 dx [("sizes", .ref so), ("_bits", .ref p3), ("_poly_bits", .ref p4)]) := by rw [← hu]; exact upd_same
    have hp45 : H5 p4 = some (intL ps) := k45 _ _ n4x hp4
    have s56 := made_new (o := .ins 576 dy []) (u := .own y) ny nd ne
    refine ⟨y, dy, so, p4, z, ps, rfl, o, upd_same, ⟨ds, s56 _ _ (k45 _ _ ns (k34 _ _ ns (k3 _ _ ns hs)))⟩, s56 _ _ hp45, l2, fun H7 k7 => ⟨rfl, ?_⟩⟩
    have nyx : x ≠ y := fun e => by rw [← e, hx5] at ny; cases ny
    have hx7 := k7 _ _ nyx (s56 _ _ hx5)
    have s57 : Same H5 H7 := fun a o e => k7 _ _ (ne_of_none e ny) (s56 _ _ e)
    walk_at "q"
    refine ⟨_, _, _, _, rfl, hx7, T.c_Key, T.n_Key_poly, (show (3 : Nat) < 1000 by decide), ?_⟩
    walk_at "q"
    refine h _ (((k3.trans k34).trans (k45.trans (KpA.of s57))).trans KpA.upd) ⟨⟨dx, p3, p4, y, ?_, ?_⟩, ⟨ds, ?_⟩⟩
    · rw [upd_same]; rfl
    · rw [upd_ne n3x]; exact s57 _ _ (k45 _ _ n3x (k34 _ _ n3x hp3))
    · rw [upd_ne ns]; exact s57 _ _ (k45 _ _ ns (k34 _ _ ns (k3 _ _ ns hs)))
def spMasked : Sp := fun vs H Q _ => ∃ (a so mk : Addr) (z : Sz) (bs ms : List Int), vs = [.ref a, .ref mk] ∧ KeyAt so z bs a H ∧ H mk = some (intL ms) ∧ ms.length ≤ 1000 ∧ (∀ b ∈ bs, 0 ≤ b ∧ b ≤ 1) ∧ ∀ H', Same H H' → Q (.int (dotZ ms bs)) H'
theorem zw_at {f : Int → Int → Int} {a b : List Int} {i : Nat} {x y : Int} (h1 : a[i]? = some x) (h2 : b[i]? = some y) : (List.zipWith f a b)[i]? = some (f x y) := by
  rw [List.getElem?_zipWith, h1, h2]
theorem ok_masked (T : Txt K mg) : C8.Met P w K mg base 1 863 "_masked" spMasked [] := by
  have S : FnScope ["self", "mask", "number", "bit"] ["self", "mask"] (C8.fnScope (meth 53 7)) := C8.fnScope_by (by decide +kernel)
  refine met_of T.f_Key_masked T.c_Key T.m_Key_masked S (fun _ _ _ _ _ _ us hl => match us, hl with | [_, _], _ => rfl) (fun vs H Q E h => ?_) (fun cdv A outer s H vs Q E hr h => ?_)
  · obtain ⟨a, so, mk, z, bs, ms, rfl, _⟩ := h
    rfl
  · obtain ⟨a, so, mk, z, bs, ms, rfl, ⟨⟨dx, bl, pb, pp, ha, hb⟩, hs⟩, hm, hl, bb, h⟩ := h
    refine ⟨_, (pss_one (ps_ret (pe_callB (cr_sum rfl) rfl T.z_sum (by decide +kernel) (pa_cons (pe_lc (own := [("number", 2), ("bit", 3)]) rfl S.nd (pi_zip rfl T.z_zip (pa_cons (pv 1) (pa_cons (pe_fldK (K := K) rfl (pv 0) rfl) pa_nil))) (blkOk_by (N := ["self", "mask", "number", "bit"]) (sc := C8.fnScope (meth 53 7)) (by decide +kernel)) (fun _ _ _ _ _ => (pg_tupK (K := K) (n := 2) rfl rfl (pgs_cons (pg_name (i := 2) S.nd rfl (Or.inl rfl)) (pgs_cons (pg_name (i := 3) S.nd rfl (Or.inl rfl)) pgs_nil)))) (fun _ _ _ _ _ => pts_nil) (fun _ _ _ _ _ => (pe_op op_mul (pv 2) (pv 3)))) pa_nil)))), ?_⟩
    walk_at "q"
    refine ⟨_, _, _, _, _, rfl, ha, T.c_Key, T.n_Key_bits, rfl, ?_⟩
    walk_at "q"
    refine ⟨mk, bl, _, _, rfl, SqL.of hm, SqL.of hb, ?_⟩
    intro D hD
    refine lc_inv (walk_zip rfl) hD (fun i acc H' => acc = ((List.zipWith (· * ·) ms bs).take i).map V.int ∧ Same H H') ⟨rfl, Same.refl _⟩ (fun i acc H' o ⟨e, s⟩ => ⟨e, fun b u e => by rw [upd_ne (ne_of_none e hD)]; exact s b u e⟩) (fun i acc H' ⟨_, s⟩ => ⟨SqL.of (s _ _ hm), SqL.of (s _ _ hb)⟩) (by simp; omega) ?_ ?_
    · rintro i acc v H4 H5 hi hla ⟨e, s4⟩ hD2 ⟨Tp, y1, z1, rfl, hT, rfl, hy, hz⟩ Kc kc
      obtain ⟨m, hm1, rfl⟩ := lst_at hy
      obtain ⟨b, hb1, rfl⟩ := lst_at hz
      obtain ⟨q1, q2⟩ := bb b (List.mem_of_getElem? hb1)
      refine ⟨_, _, rfl, SqT.of upd_same, rfl, ?_⟩
      walk_at "q"
      refine ⟨rfl, ?_⟩
      walk_at "q"
      refine r_I (.inr ⟨by omega, by omega⟩) ?_
      refine kc _ _ (by rw [upd_ne (ne_of_none hD2 hT)]; exact hD2) ⟨?_, s4.trans (same_upd hT)⟩
      rw [e, List.take_add_one, zw_at hm1 hb1, List.map_append]
      rfl
    · rintro acc H4 hla ⟨e, s4⟩ hD2
      walk_at "q"
      have e2 : acc = (List.zipWith (· * ·) ms bs).map V.int := by rw [e, List.take_of_length_le (by simp)]
      rw [e2] at hD2
      exact ⟨D, _, rfl, SqL.of hD2, h _ s4⟩
end
end K20

set_option Elab.async false
set_option linter.all false
set_option maxRecDepth 100000
set_option maxHeartbeats 4000000
namespace K20
open PySem PySem.Spec PyProof.Rows L2
local macro_rules | `(tactic| walk_at "q1") => `(tactic| first
  | with_reducible refine r_seq ?_ | with_reducible refine r_asg ?_ | with_reducible refine r_name ?_ | with_reducible refine r_ret ?_ | with_reducible refine r_ifS ?_ | with_reducible refine r_next ?_ | with_reducible refine r_drop ?_
  | ((with_reducible show tVar _ _ _ _); refine ⟨_, rfl, ?_⟩) | with_reducible refine r_c ?_ | with_reducible refine r_op ?_ | with_reducible refine r_un ?_ | with_reducible refine r_I0 ?_ | with_reducible refine r_U ?_
  | with_reducible refine r_eqI ?_ | with_reducible refine r_neI ?_ | with_reducible refine r_neB ?_ | with_reducible refine r_cb ?_ | with_reducible refine r_cons ?_ | with_reducible refine r_nil ?_ | with_reducible refine r_test ?_ | with_reducible refine r_tB ?_
  | with_reducible refine r_bl ?_ | with_reducible refine r_not ?_ | with_reducible refine r_notV ?_ | with_reducible refine r_and ?_ | with_reducible refine r_or ?_ | with_reducible refine r_andV ?_ | with_reducible refine r_orV ?_ | with_reducible refine r_if ?_
  | with_reducible refine r_T ?_ | with_reducible refine r_F ?_ | with_reducible refine r_NT ?_ | with_reducible refine r_NF ?_ | with_reducible refine r_call ?_ | with_reducible refine r_meth ?_ | with_reducible refine r_int1 ?_ | with_reducible refine r_fld ?_
  | with_reducible refine r_tup ?_ | with_reducible refine r_lst ?_ | with_reducible refine r_par ?_ | with_reducible refine r_par3 ?_ | with_reducible refine r_two ?_ | with_reducible refine r_three ?_ | with_reducible refine r_abs ?_ | with_reducible refine r_max ?_
  | with_reducible refine r_cut ?_ | with_reducible refine r_lc ?_ | with_reducible refine r_lc2 ?_ | with_reducible refine r_mkB ?_ | with_reducible refine r_for ?_ | with_reducible refine r_iList ?_ | with_reducible refine r_iTup ?_ | with_reducible refine r_revL ?_ | with_reducible refine r_star ?_ | with_reducible refine r_bits ?_ | with_reducible refine r_iRng ?_ | with_reducible refine r_iEnum ?_ | with_reducible refine r_iZip ?_ | with_reducible refine r_sub ?_ | with_reducible refine r_sfld ?_ | with_reducible refine r_bm ?_
  | with_reducible refine r_methK ?_ | with_reducible refine r_methS ?_ | with_reducible refine r_make ?_ | with_reducible refine r_mod ?_ | with_reducible refine r_gtup ?_ | with_reducible refine r_gcons ?_ | with_reducible refine r_gnil ?_ | with_reducible refine r_slc ?_ | with_reducible refine r_part ?_ | with_reducible refine r_noPart ?_)
local macro_rules | `(tactic| walk_at "nw") => `(tactic| (intro p hp; generalize hu : upd _ p _ = H1; obtain ⟨s1, hp1⟩ := nwx hp hu; clear hu))
local macro_rules | `(tactic| walk_at "q") => `(tactic| repeat walk_at "q1")
section
variable {P : Program} {w : World} {K : Fr} {mg : Str → Option Value} {base : Heap}
/-! ### a key's methods -/
section
variable {P : Program} {w : World} {K : Fr} {mg : Str → Option Value} {base : Heap}
theorem metk_of {x qual : Str} {st : Stmt} {C a cda : Addr} {N ps : List Str} {k n : Nat} {ks : List Str} {sp : Sp} {gV : List V → List V → List V} (F : Df K x qual st a cda) (c : Cls K C) (me : Meth K C x a) (S : FnScope N ps (C8.fnScope st)) (g : List Value → List Value → List Value)
    (b : ∀ (kV doc pm : Value) (an : Option Addr) (cdv ct : Value) (us ws : List Value), us.length = n + 1 → ws.length = ks.length → bindArgs (PySem.W.fnOf x qual (C8.fnArgs st) (C8.fnBody st) (C8.fnScope st) .none kV doc pm an cdv ct) ⟨us, ks.zip ws⟩ = pure (ps.zip (g us ws)))
    (rel : ∀ {vs : List V} {us : List Value} {zs : List V} {ws : List Value}, Vals vs us → Vals zs ws → Vals (gV vs zs) (g us ws))
    (len : ∀ vs H Q E, sp vs H Q E → vs.length = ps.length)
    (hbody : ∀ (cdv : Value) (A : Around) (outer : List Env) (s : Shared) (H : Hp) (vs : List V) (Q : VK) (E : XK), Room k (A.deeper (envOfC qual (C8.fnScope st) s.heap.objs.size a cdv)) → sp vs H Q E →
      ∃ t, PSs (cxOf C8.CX0 P w K mg base N qual (C8.fnScope st) a cdv A outer s H E).nox (C8.fnBody st) t ∧ t { nx := fun _ H' => Q .non H', rt := Q } (start N vs) H) : MetK C8.CX0 P w K mg base (k + 1) C x sp n ks gV := by
  obtain ⟨fd, hF, df, kV, doc, pm, an, ct, e⟩ := F.fun_
  refine ⟨a, fd, ps, g, c, me, C8.fn0 hF S len hbody, ?_⟩
  subst e
  exact KBn.all (b kV doc pm an _ ct) rel
end
theorem vals_app {vs : List V} {us : List Value} {zs : List V} {ws : List Value} (a : Vals vs us) (b : Vals zs ws) : Vals (vs ++ zs) (us ++ ws) := by
  induction a with
  | nil => exact b
  | cons r t ih => exact .cons r ih
abbrev appV : List V → List V → List V := fun a b => a ++ b
def spCoverOf : Sp := fun vs H Q _ => ∃ (a so d : Addr) (z : Sz) (bs : List Int) (r : Int) (p : Pen) (l : Pl), vs = [.ref a, .int r, .ref d] ∧ z.Ok ∧ KeyAt so z bs a H ∧ (∀ b ∈ bs, 0 ≤ b ∧ b ≤ 1) ∧ PenAt p d l H ∧ p.Ok ∧
  ∀ c H', H c = none → KpA d H H' → PenAt (coverOf z bs p r).2 d l H' → CvAt so (coverOf z bs p r).1 c H' → Q (.ref c) H'
theorem emod_map {q : Int} : ∀ {ms : List Int}, (∀ x ∈ ms, 0 ≤ x ∧ x < q) → ms.map (· % q) = ms
  | [], _ => rfl
  | x :: xs, h => by
    obtain ⟨a, b⟩ := h x List.mem_cons_self
    rw [List.map_cons, Int.emod_eq_of_lt a b, emod_map fun y hy => h y (List.mem_cons_of_mem _ hy)]
theorem CvAt.new {so : Addr} {c : Cov} {x : Addr} {H : Hp} {d : Addr} {l : Pl} {p : Pen} {H' : Hp} (h : CvAt so c x H) (k : KpA d H H') (hp : PenAt p d l H) : CvAt so c x H' := by
  obtain ⟨C, dx, fs, e, hc⟩ := hp.ins
  exact h.kp k e (by rcases hc with rfl | rfl <;> decide)
theorem ok_cover_of (T : Txt K mg) (c_Cover : C8.Mak P w K mg base 3 "Cover" 377 spCover []) (c_masked : C8.Met P w K mg base 1 863 "_masked" spMasked []) (c_Mresidue : C8.Met P w K mg base 3 678 "residue" (spM spRes) []) (c_Lresidue : C8.Met P w K mg base 3 720 "residue" (spL spRes) [])
    (c_Mnoise : C8.Met P w K mg base 2 678 "noise" (spM spNoi) []) (c_Lnoise : C8.Met P w K mg base 2 720 "noise" (spL spNoi) []) : MetK C8.CX0 P w K mg base 5 863 "cover_of" spCoverOf 1 ["draws"] appV := by
  have S : FnScope ["self", "number", "draws", "sizes", "mask", "noise", "_"] ["self", "number", "draws"] (C8.fnScope (meth 53 8)) := C8.fnScope_by (by decide +kernel)
  refine metk_of T.f_Key_cover_of T.c_Key T.m_Key_cover_of S (fun us ws => us ++ ws) (fun _ _ _ _ _ _ us ws h1 h2 => match us, ws, h1, h2 with | [_, _], [_], _, _ => rfl) vals_app (fun vs H Q E h => ?_) (fun cdv A outer s H vs Q E hr h => ?_)
  · obtain ⟨a, so, d, z, bs, r, p, l, rfl, _⟩ := h
    rfl
  · obtain ⟨a, so, d, z, bs, r, p, l, rfl, o, ka, bb, hp, pok, h⟩ := h
    refine ⟨_, (pss_cons (ps_set (i := 3) S.nd rfl (Or.inr rfl) (pe_fldK (K := K) rfl (pv 0) rfl))
      (pss_cons (ps_setLc (i := 4) (own := [("_", 6)]) rfl S.nd rfl rfl (sw_true rfl rfl rfl (by decide +kernel)) (pi_range1 rfl T.z_range (pa_cons (pe_fldK (K := K) rfl (pv 3) rfl) pa_nil)) (blkOk_by (N := ["self", "number", "draws", "sizes", "mask", "noise", "_"]) (sc := C8.fnScope (meth 53 8)) (by decide +kernel)) (fun _ _ _ _ _ => (pg_name (i := 6) S.nd rfl (Or.inl rfl))) (fun _ _ _ _ _ => pts_nil) (fun _ _ _ _ _ => (pe_pen1 c_Mresidue c_Lresidue hr (by decide) (by decide) (fun _ => rfl) (fun _ _ _ _ => rfl) (pv 2) (pv 3))))
      (pss_cons (ps_set (i := 5) S.nd rfl (Or.inl rfl) (pe_pen1 c_Mnoise c_Lnoise hr (by decide) (by decide) (fun _ => rfl) (fun _ _ _ _ => rfl) (pv 2) (pv 3)))
      (pss_one (ps_ret (C8.pe_mk c_Cover hr (by decide) rfl (pa_cons (pv 3) (pa_cons (pv 4) (pa_cons (pe_op op_add (pe_op op_add (C8.pe_mt c_masked hr (by decide) (pv 0) (pa_cons (pv 4) pa_nil)) (pv 1)) (pv 5)) pa_nil))))))))), ?_⟩
    have n8 := o.n8
    obtain ⟨⟨dx, bl, pb, pp, ha, hb⟩, hs⟩ := id ka
    walk_at "q"
    refine ⟨_, _, _, _, _, rfl, ha, T.c_Key, T.n_Key_sizes, rfl, ?_⟩
    walk_at "q"
    obtain ⟨ds, hs'⟩ := id hs
    refine ⟨_, _, _, _, _, rfl, hs', T.c_Sizes, T.n_Sizes_length, rfl, ?_⟩
    walk_at "q"
    refine ⟨_, rfl, by omega, by omega, ?_⟩
    intro D hD
    have off := hp.off hD
    refine lc_inv (walk_range (n := (z.n : Int).toNat)) hD (fun i acc H' => acc = (maskOf z p i).1.map V.int ∧ KpA d H H' ∧ PenAt (maskOf z p i).2 d l H') ⟨rfl, KpA.refl, hp⟩ (fun i acc H' o ⟨e, k, q⟩ => ⟨e, fun b u n e => by rw [upd_ne (ne_of_none e hD)]; exact k b u n e, q.upd off⟩) (fun _ _ _ _ => trivial) (by omega) ?_ ?_
    · rintro i acc v H4 H5 hi hla ⟨e, k4, p4⟩ hD2 ⟨rfl, rfl⟩ Kc kc
      walk_at "q"
      refine ⟨rfl, ?_⟩
      refine ⟨d, _, l, so, rfl, rfl, p4, d, so, z, l, rfl, o, hs.kp' hp k4, p4, maskOf_ok pok i, fun H6 k6 p6 => ?_⟩
      refine kc _ _ (k6 _ _ off.1 hD2) ⟨?_, k4.trans k6, p6⟩
      rw [e]
      show _ = List.map V.int ((maskOf z p i).1 ++ [((maskOf z p i).2.resid z).1])
      rw [List.map_append]
      rfl
    · rw [Int.toNat_natCast]
      rintro acc H4 hla ⟨e, k4, p4⟩ hD2
      walk_at "q"
      refine ⟨d, _, l, so, rfl, rfl, p4, d, so, z, l, rfl, o, hs.kp' hp k4, p4, maskOf_ok pok z.n, fun H6 k6 p6 => ?_⟩
      have k46 := k4.trans k6
      have ka6 := ka.kp hp k46
      have mk6 : H6 D = some (intL (maskOf z p z.n).1) := by rw [k6 _ _ off.1 hD2, e]; rfl
      obtain ⟨C, dp, fs, ha6, hc⟩ := id p6.ins
      obtain ⟨dx6, bl6, pb6, pp6, hk6, hb6⟩ := ka6.ex
      walk_at "q"
      refine ⟨a, dx6, _, rfl, hk6, by rfl, ?_⟩
      walk_at "q"
      refine ⟨a, so, D, z, bs, _, rfl, ka6, mk6, by rw [maskOf_len]; omega, bb, fun H7 s7 => ?_⟩
      walk_at "q"
      intro x xd nx nd ne
      have s8 := made_new (o := .ins 377 xd []) (u := .own x) nx nd ne
      refine ⟨x, xd, so, D, z, _, _, rfl, o, upd_same, (ka6.sz.same s7).same s8, s8 _ _ (s7 _ _ mk6), maskOf_len z p z.n, fun H9 k9 c9 => ⟨rfl, ?_⟩⟩
      have nx6 : H6 x = none := by
        cases q : H6 x with
        | none => rfl
        | some u => rw [s7 _ _ q] at nx; cases nx
      have nxd : x ≠ d := fun e => by rw [e, ha6] at nx6; cases nx6
      have s69 : Same H6 H9 := fun b u e => k9 _ _ (ne_of_none e nx6) (s8 _ _ (s7 _ _ e))
      have nxH : H x = none := by
        cases q : H x with
        | none => rfl
        | some u => rw [k46 _ _ nxd q] at nx6; cases nx6
      rw [emod_map (maskOf_bd z p z.n)] at c9
      exact h x H9 nxH (k46.trans (KpA.of s69)) (p6.same s69) c9
end
end K20

set_option Elab.async false
set_option linter.all false
set_option maxRecDepth 100000
set_option maxHeartbeats 4000000
namespace K20
open PySem PySem.Spec PyProof.Rows L2
local macro_rules | `(tactic| walk_at "q1") => `(tactic| first
  | with_reducible refine r_seq ?_ | with_reducible refine r_asg ?_ | with_reducible refine r_name ?_ | with_reducible refine r_ret ?_ | with_reducible refine r_ifS ?_ | with_reducible refine r_next ?_ | with_reducible refine r_drop ?_
  | ((with_reducible show tVar _ _ _ _); refine ⟨_, rfl, ?_⟩) | with_reducible refine r_c ?_ | with_reducible refine r_op ?_ | with_reducible refine r_un ?_ | with_reducible refine r_I0 ?_ | with_reducible refine r_U ?_
  | with_reducible refine r_eqI ?_ | with_reducible refine r_neI ?_ | with_reducible refine r_neB ?_ | with_reducible refine r_cb ?_ | with_reducible refine r_cons ?_ | with_reducible refine r_nil ?_ | with_reducible refine r_test ?_ | with_reducible refine r_tB ?_
  | with_reducible refine r_bl ?_ | with_reducible refine r_not ?_ | with_reducible refine r_notV ?_ | with_reducible refine r_and ?_ | with_reducible refine r_or ?_ | with_reducible refine r_andV ?_ | with_reducible refine r_orV ?_ | with_reducible refine r_if ?_
  | with_reducible refine r_T ?_ | with_reducible refine r_F ?_ | with_reducible refine r_NT ?_ | with_reducible refine r_NF ?_ | with_reducible refine r_call ?_ | with_reducible refine r_meth ?_ | with_reducible refine r_int1 ?_ | with_reducible refine r_fld ?_
  | with_reducible refine r_tup ?_ | with_reducible refine r_lst ?_ | with_reducible refine r_par ?_ | with_reducible refine r_par3 ?_ | with_reducible refine r_two ?_ | with_reducible refine r_three ?_ | with_reducible refine r_abs ?_ | with_reducible refine r_max ?_
  | with_reducible refine r_cut ?_ | with_reducible refine r_lc ?_ | with_reducible refine r_lc2 ?_ | with_reducible refine r_mkB ?_ | with_reducible refine r_for ?_ | with_reducible refine r_iList ?_ | with_reducible refine r_iTup ?_ | with_reducible refine r_revL ?_ | with_reducible refine r_star ?_ | with_reducible refine r_bits ?_ | with_reducible refine r_iRng ?_ | with_reducible refine r_iEnum ?_ | with_reducible refine r_iZip ?_ | with_reducible refine r_sub ?_ | with_reducible refine r_sfld ?_ | with_reducible refine r_bm ?_
  | with_reducible refine r_methK ?_ | with_reducible refine r_methS ?_ | with_reducible refine r_make ?_ | with_reducible refine r_mod ?_ | with_reducible refine r_gtup ?_ | with_reducible refine r_gcons ?_ | with_reducible refine r_gnil ?_ | with_reducible refine r_slc ?_ | with_reducible refine r_part ?_ | with_reducible refine r_noPart ?_)
local macro_rules | `(tactic| walk_at "nw") => `(tactic| (intro p hp; generalize hu : upd _ p _ = H1; obtain ⟨s1, hp1⟩ := nwx hp hu; clear hu))
local macro_rules | `(tactic| walk_at "q") => `(tactic| repeat walk_at "q1")
section
variable {P : Program} {w : World} {K : Fr} {mg : Str → Option Value} {base : Heap}
/-! ### a switch made by a key; the phase -/
theorem cov_ne {c : Cov} {z : Sz} (h : c.Ok z) (o : z.Ok) : c.m ≠ [] := fun e => by
  have := h.len
  rw [e] at this
  have := o.n1
  simp at *
  omega
theorem intL_refL {ms : List Int} {as : List Addr} (h : ms ≠ []) : intL ms ≠ refL as := fun e => by
  cases ms with
  | nil => exact h rfl
  | cons m ms =>
    cases as with
    | nil => injection e with e; cases e
    | cons a as =>
      injection e with e
      injection e with e _
      cases e
theorem CvAt.app {so : Addr} {c : Cov} {x cl : Addr} {as : List Addr} {o : HO} {H : Hp} (h : CvAt so c x H) (hc : H cl = some (refL as)) (hm : c.m ≠ []) : CvAt so c x (upd H cl o) := by
  obtain ⟨dx, mp, e, f⟩ := h
  exact ⟨dx, mp, by rw [upd_ne (ne_ins e hc fun q => by cases q)]; exact e, by rw [upd_ne (ne_ins f hc (intL_refL hm))]; exact f⟩
theorem CvsAt.new {so : Addr} {cs : List Cov} {cl d : Addr} {l : Pl} {p : Pen} {H H' : Hp} (h : CvsAt so cs cl H) (k : KpA d H H') (hp : PenAt p d l H) : CvsAt so cs cl H' := by
  obtain ⟨as, e, f, g⟩ := h
  obtain ⟨C, dx, fs, e2, _⟩ := id hp.ins
  exact ⟨as, k _ _ (ne_ins e e2 fun q => by cases q) e, f, fun i a c h1 h2 => (g i a c h1 h2).new k hp⟩
theorem CvsAt.app {so : Addr} {cs : List Cov} {c : Cov} {cl x : Addr} {as : List Addr} {H : Hp} (e : H cl = some (refL as)) (f : as.length = cs.length) (g : ∀ (i : Nat) a c, as[i]? = some a → cs[i]? = some c → CvAt so c a H) (hx : CvAt so c x H) (hm : ∀ b ∈ cs ++ [c], b.m ≠ []) :
    CvsAt so (cs ++ [c]) cl (upd H cl (.lst (as.map V.ref ++ [.ref x]))) := by
  refine ⟨as ++ [x], ?_, by simp [f], fun i a b h1 h2 => ?_⟩
  · rw [upd_same]; simp [refL]
  · have hb := hm b (List.mem_of_getElem? h2)
    rcases Nat.lt_or_ge i as.length with q | q
    · rw [List.getElem?_append_left q] at h1
      rw [List.getElem?_append_left (by omega)] at h2
      exact (g i a b h1 h2).app e hb
    · rw [List.getElem?_append_right q] at h1
      rw [List.getElem?_append_right (by omega)] at h2
      have i0 : i = as.length := by
        have := (List.getElem?_eq_some_iff.mp h1).1
        simp at this
        omega
      subst i0
      rw [Nat.sub_self] at h1
      rw [f, Nat.sub_self] at h2
      cases h1
      cases h2
      exact hx.app e hb
def spSwFrom : Sp := fun vs H Q _ => ∃ (a so d ba : Addr) (z : Sz) (bs ts : List Int) (p : Pen) (l : Pl), vs = [.ref a, .ref ba, .ref d] ∧ z.Ok ∧ KeyAt so z bs a H ∧ (∀ b ∈ bs, 0 ≤ b ∧ b ≤ 1) ∧ H ba = some (intL ts) ∧ ts.length ≤ 32 ∧ (∀ b ∈ ts, 0 ≤ b ∧ b ≤ 1) ∧ PenAt p d l H ∧ p.Ok ∧
  ∀ c H', H c = none → KpA d H H' → PenAt (swOf z bs ts p ts.length).2 d l H' → SwAt so z (swOf z bs ts p ts.length).1.flatten ts.length c H' → Q (.ref c) H'
theorem ok_switch_from (T : Txt K mg) (c_check_bits : C8.Cal P w K mg base 4 "check_bits" spBits []) (c_cover_of : MetK C8.CX0 P w K mg base 5 863 "cover_of" spCoverOf 1 ["draws"] appV) (c_Switch : C8.Mak P w K mg base 4 "Switch" 621 spSwitch []) : MetK C8.CX0 P w K mg base 7 863 "switch_from" spSwFrom 1 ["draws"] appV := by
  have S : FnScope ["self", "bits", "draws", "covers", "bit", "power", "_"] ["self", "bits", "draws"] (C8.fnScope (meth 53 12)) := C8.fnScope_by (by decide +kernel)
  refine metk_of T.f_Key_switch_from T.c_Key T.m_Key_switch_from S (fun us ws => us ++ ws) (fun _ _ _ _ _ _ us ws h1 h2 => match us, ws, h1, h2 with | [_, _], [_], _, _ => rfl) vals_app (fun vs H Q E h => ?_) (fun cdv A outer s H vs Q E hr h => ?_)
  · obtain ⟨a, so, d, ba, z, bs, ts, p, l, rfl, _⟩ := h
    rfl
  · obtain ⟨a, so, d, ba, z, bs, ts, p, l, rfl, o, ka, bb, hba, tl, tb, hp, pok, h⟩ := h
    refine ⟨_, (pss_cons (ps_if (PW.pt (pw_or (pt_not (pt_val (pe_callB (call_isiTK (K := K) rfl) rfl T.z_isinstance (by decide +kernel) (pa_cons (pv 1) (pa_cons (pe_tup (pa_cons (pe_ty "list" T.z_list) (pa_cons (pe_ty "tuple" T.z_tuple) pa_nil))) pa_nil))))) (pw_or1 (pt_cmpR op_gt (pe_callB call_len_seq rfl T.z_len (by decide +kernel) (pa_cons (pv 1) pa_nil)) pe_int (nomark _))))) (pss_one ps_never) pss_nil)
      (pss_cons (ps_expr (C8.pe_c c_check_bits hr (by decide) rfl (pa_cons (pv 1) (pa_cons (pe_callB call_len_seq rfl T.z_len (by decide +kernel) (pa_cons (pv 1) pa_nil)) pa_nil))))
      (pss_cons (ps_set (i := 3) S.nd rfl (Or.inl rfl) (pe_lst pa_nil))
      (pss_cons (ps_for PassesOwn.never rfl (pi_listK (K := K) rfl (pv 1)) (pg_name (i := 4) S.nd rfl (Or.inl rfl)) (pss_cons (ps_set (i := 5) S.nd rfl (Or.inl rfl) pe_int)
      (pss_one (ps_for PassesOwn.never rfl (pi_range1 rfl T.z_range (pa_cons (pe_fldK (K := K) rfl (pe_fldK (K := K) rfl (pv 0) rfl) rfl) pa_nil)) (pg_name (i := 6) S.nd rfl (Or.inl rfl)) (pss_cons (ps_expr (pe_bm PySem.F.plainAttrs_list PySem.F.slot_list_append PySem.F.type_list_append mt_append (pv 3) (pa_cons (pe_mtK c_cover_of hr (by decide) (fun _ => pass0' _ _) (pv 0) (pa_cons (pe_op op_mul (pv 4) (pv 5)) pa_nil) (pk_cons (pv 2) pk_nil)) pa_nil)))
      (pss_one (ps_set (i := 5) S.nd rfl (Or.inl rfl) (pe_op op_mul (pv 5) (pe_fldK (K := K) rfl (pe_fldK (K := K) rfl (pv 0) rfl) rfl)))))))))
      (pss_one (ps_ret (C8.pe_mk c_Switch hr (by decide) rfl (pa_cons (pe_fldK (K := K) rfl (pv 0) rfl) (pa_cons (pe_callB call_len_seq rfl T.z_len (by decide +kernel) (pa_cons (pv 1) pa_nil)) (pa_cons (pv 3) pa_nil)))))))))), ?_⟩
    have l8 := o.l8
    have bp := z.Bpos
    have bl := Sz.Ble o
    walk_at "q"
    refine ⟨by decide, ?_⟩
    walk_at "nw"
    rename_i p1 np1 H1 s1 hp1
    walk_at "q"
    refine r_isL hp1 (s1 _ _ hba) ?_
    walk_at "q"
    refine ⟨ba, _, rfl, .inl (SqL.of (s1 _ _ hba)), ?_⟩
    walk_at "q"
    refine r_neg (by rw [List.length_map]; omega) ?_
    walk_at "q"
    refine ⟨ba, _, rfl, .inl (SqL.of (s1 _ _ hba)), ?_⟩
    walk_at "q"
    refine ⟨ba, ts, by rw [List.length_map]; rfl, s1 _ _ hba, tb, fun H2 s2 => ?_⟩
    walk_at "q"
    refine ⟨by decide, ?_⟩
    walk_at "nw"
    rename_i cl ncl H3 s3 hcl
    have s := (s1.trans s2).trans s3
    have p3 := hp.same s
    have ka3 := ka.same s
    have hba3 := s _ _ hba
    have off := (hp.same (s1.trans s2)).off ncl
    obtain ⟨C, dp, fs, hd3, hC⟩ := id p3.ins
    have nba : ba ≠ d := ne_ins hba3 hd3 fun q => by cases q
    have nbc : ba ≠ cl := fun e => by rw [← e, (s1.trans s2) _ _ hba] at ncl; cases ncl
    have upK : ∀ {Hx Hy : Hp} {o : HO}, KpA d H Hx → (∀ b u, H b = some u → b ≠ cl) → KpA d H (upd Hx cl o) := fun k q b u n e => by rw [upd_ne (q b u e)]; exact k b u n e
    have offH : ∀ b u, H b = some u → b ≠ cl := fun b u e q => by rw [← q, (s1.trans s2) _ _ e] at ncl; cases ncl
    walk_at "q"
    refine ⟨ba, rfl, ⟨_, SqL.of hba3⟩, ?_⟩
    refine for_it walk_list (fun j σ H' => ∃ v4 v5 v6, σ = [some (.ref a), some (.ref ba), some (.ref d), some (.ref cl), v4, v5, v6] ∧ KpA d H H' ∧ PenAt (swOf z bs ts p j).2 d l H' ∧ CvsAt so (swOf z bs ts p j).1.flatten cl H') ⟨_, _, _, rfl, KpA.of s, p3, ⟨[], hcl, rfl, fun i a c h1 _ => by cases h1⟩⟩ (fun j σ H' _ ⟨_, _, _, _, k, q, _⟩ => SqL.of (k _ _ nba hba)) ?_ ?_
    · rintro j v σ H4 H5 hj ⟨v4, v5, v6, rfl, k4, p4, c4⟩ ⟨rfl, hv⟩
      obtain ⟨t, ht, rfl⟩ := lst_at hv
      have hj' : j < ts.length := by simpa using hj
      obtain ⟨t0, t1⟩ := tb t (List.mem_of_getElem? ht)
      have et : ts.getD j 0 = t := by rw [List.getD_eq_getElem?_getD, ht]; rfl
      walk_at "q"
      obtain ⟨⟨dx4, bl4, pb4, pp4, ha4, hb4⟩, ⟨ds4, hs4⟩⟩ := ka.kp hp k4
      refine ⟨_, _, _, _, _, rfl, ha4, T.c_Key, T.n_Key_sizes, rfl, ?_⟩
      walk_at "q"
      refine ⟨_, _, _, _, _, rfl, hs4, T.c_Sizes, T.n_Sizes_places, rfl, ?_⟩
      walk_at "q"
      refine ⟨_, rfl, by omega, by omega, ?_⟩
      refine for_it (walk_range (n := (z.l : Int).toNat)) (fun i σ H' => ∃ v6, σ = [some (.ref a), some (.ref ba), some (.ref d), some (.ref cl), some (.int t), some (.int (z.B ^ i)), v6] ∧ KpA d H H' ∧ PenAt (lineOf z bs t (swOf z bs ts p j).2 i).2 d l H' ∧ CvsAt so ((swOf z bs ts p j).1.flatten ++ (lineOf z bs t (swOf z bs ts p j).2 i).1) cl H') ⟨_, rfl, k4, p4, by rw [show (lineOf z bs t (swOf z bs ts p j).2 0).1 = [] from rfl, List.append_nil]; exact c4⟩ (fun _ _ _ _ _ => trivial) ?_ ?_
      · rintro i v σ H6 H7 hi ⟨v6, rfl, k6, p6, c6⟩ ⟨rfl, rfl⟩
        have ka6 := ka.kp hp k6
        obtain ⟨dx6, bl6, pb6, pp6, ha6, hb6⟩ := ka6.ex
        obtain ⟨as6, e6, f6, g6⟩ := id c6
        walk_at "q"
        refine ⟨.inl ⟨rfl, _, SqL.of e6⟩, ?_⟩
        walk_at "q"
        refine ⟨a, dx6, _, rfl, ha6, by rfl, ?_⟩
        walk_at "q"
        refine r_I (.inl ⟨by omega, by omega⟩) ?_
        walk_at "q"
        refine ⟨rfl, rfl, a, so, d, z, bs, _, _, l, rfl, o, ka6, bb, p6, lineOf_pok (swOf_pok pok j) i, fun c H8 nc k8 p8 c8 => ?_⟩
        obtain ⟨as8, e8, f8, g8⟩ := c6.new k8 p6
        walk_at "q"
        have lb : ((swOf z bs ts p j).1.flatten ++ (lineOf z bs t (swOf z bs ts p j).2 i).1).length ≤ 1000 := by
          rw [List.length_append, swOf_flat, lineOf_len]
          have : j * z.l ≤ 32 * 8 := Nat.mul_le_mul (by omega) l8
          omega
        refine ⟨_, _, _, rfl, rfl, e8, Nat.lt_of_le_of_lt (m := 1000) (by rw [List.length_map, f8]; exact lb) (by decide), ?_⟩
        have ka9 : KeyAt so z bs a (upd H8 cl (.lst (as8.map V.ref ++ [.ref c]))) := by
          obtain ⟨⟨dx8, bl8, pb8, pp8, ha8, hb8⟩, ⟨ds8, hs8⟩⟩ := ka
          have k68 := k6.trans k8
          obtain ⟨C', dp', fs', hd', hC'⟩ := id hp.ins
          have ne1 : a ≠ d := ne_ins ha8 hd' fun q => by injection q with q; rcases hC' with c | c <;> rw [c] at q <;> revert q <;> decide
          have ne2 : bl8 ≠ d := ne_ins hb8 hd' fun q => by cases q
          have ne3 : so ≠ d := ne_ins hs8 hd' fun q => by injection q with q; rcases hC' with c | c <;> rw [c] at q <;> revert q <;> decide
          exact ⟨⟨dx8, bl8, pb8, pp8, by rw [upd_ne (offH _ _ ha8)]; exact k68 _ _ ne1 ha8, by rw [upd_ne (offH _ _ hb8)]; exact k68 _ _ ne2 hb8⟩, ⟨ds8, by rw [upd_ne (offH _ _ hs8)]; exact k68 _ _ ne3 hs8⟩⟩
        obtain ⟨⟨dx9, bl9, pb9, pp9, ha9, hb9⟩, ⟨ds9, hs9⟩⟩ := ka9
        walk_at "q"
        refine ⟨_, _, _, _, _, rfl, ha9, T.c_Key, T.n_Key_sizes, rfl, ?_⟩
        walk_at "q"
        refine ⟨_, _, _, _, _, rfl, hs9, T.c_Sizes, T.n_Sizes_base, rfl, ?_⟩
        walk_at "q"
        refine r_I (.inr ⟨by omega, by omega⟩) ?_
        walk_at "q"
        refine ⟨_, by rw [Int.pow_succ]; rfl, fun b u n e => by rw [upd_ne (offH _ _ e)]; exact (k6.trans k8) b u n e, p8.upd off, ?_⟩
        show CvsAt so ((swOf z bs ts p j).1.flatten ++ ((lineOf z bs t (swOf z bs ts p j).2 i).1 ++ [(coverOf z bs (lineOf z bs t (swOf z bs ts p j).2 i).2 (t * z.B ^ i)).1])) cl _
        rw [← List.append_assoc]
        refine CvsAt.app e8 f8 g8 c8 fun b hb => cov_ne ?_ o
        rcases List.mem_append.mp hb with q | q
        · rcases List.mem_append.mp q with q | q
          · exact swOf_ok j b q
          · exact lineOf_ok i b q
        · rw [List.mem_singleton.mp q]
          exact coverOf_ok
      · rw [Int.toNat_natCast]
        rintro σ H6 ⟨v6, rfl, k6, p6, c6⟩
        refine ⟨_, _, _, rfl, k6, ?_, ?_⟩
        · show PenAt (lineOf z bs (ts.getD j 0) (swOf z bs ts p j).2 z.l).2 d l H6
          rw [et]; exact p6
        · show CvsAt so ((swOf z bs ts p j).1 ++ [(lineOf z bs (ts.getD j 0) (swOf z bs ts p j).2 z.l).1]).flatten cl H6
          rw [List.flatten_append, et]
          simpa using c6
    · rw [List.length_map]
      rintro σ H4 ⟨v4, v5, v6, rfl, k4, p4, c4⟩
      obtain ⟨⟨dx4, bl4, pb4, pp4, ha4, hb4⟩, ⟨ds4, hs4⟩⟩ := ka.kp hp k4
      walk_at "q"
      refine ⟨_, _, _, _, _, rfl, ha4, T.c_Key, T.n_Key_sizes, rfl, ?_⟩
      walk_at "q"
      refine ⟨ba, _, rfl, .inl (SqL.of (k4 _ _ nba hba)), ?_⟩
      walk_at "q"
      intro x xd nx nd ne
      have s8 := made_new (o := .ins 621 xd []) (u := .own x) nx nd ne
      obtain ⟨C4, dp4, fs4, hd4, hC4⟩ := id p4.ins
      have nxd : x ≠ d := fun e => by rw [e, hd4] at nx; cases nx
      have nxH : H x = none := by
        cases q : H x with
        | none => rfl
        | some u => rw [k4 _ _ nxd q] at nx; cases nx
      refine ⟨x, xd, so, cl, z, ts.length, _, by rw [List.length_map]; rfl, o, upd_same, ⟨ds4, s8 _ _ hs4⟩, c4.same s8, ?_, swOf_ok ts.length, fun H9 k9 c9 => ⟨rfl, ?_⟩⟩
      · rw [swOf_flat]
        have : ts.length * z.l ≤ 32 * 8 := Nat.mul_le_mul tl l8
        omega
      · have s49 : Same H4 H9 := fun b u e => k9 _ _ (ne_of_none e nx) (s8 _ _ e)
        exact h x H9 nxH (k4.trans (KpA.of s49)) (p4.same s49) c9
def spPhase : Sp := fun vs H Q _ => ∃ (a so c : Addr) (z : Sz) (bs : List Int) (cv : Cov), vs = [.ref a, .ref c] ∧ z.Ok ∧ KeyAt so z bs a H ∧ (∀ b ∈ bs, 0 ≤ b ∧ b ≤ 1) ∧ CvAt so cv c H ∧ cv.m.length ≤ 1000 ∧ ∀ H', Same H H' → Q (.int (mid (cv.y - dotZ cv.m bs) z.q)) H'
theorem ok_phase (T : Txt K mg) (c_Sizes_eq : ∃ fd, FnOk P w K mg base C8.CX0 1 256 fd ["self", "other"] (spEq REqSz) ∧ Binds K fd ["self", "other"] []) (c_centered : C8.Cal P w K mg base 3 "centered" spCent []) (c_masked : C8.Met P w K mg base 1 863 "_masked" spMasked [])
    (c_mask : C8.Met P w K mg base 1 377 "mask" spMask []) : C8.Met P w K mg base 4 863 "phase" spPhase [] := by
  obtain ⟨fd1, F1, b1⟩ := c_Sizes_eq
  have S : FnScope ["self", "cover"] ["self", "cover"] (C8.fnScope (meth 53 14)) := C8.fnScope_by (by decide +kernel)
  refine met_of T.f_Key_phase T.c_Key T.m_Key_phase S (fun _ _ _ _ _ _ us hl => match us, hl with | [_, _], _ => rfl) (fun vs H Q E h => ?_) (fun cdv A outer s H vs Q E hr h => ?_)
  · obtain ⟨a, so, c, z, bs, cv, rfl, _⟩ := h
    rfl
  · obtain ⟨a, so, c, z, bs, cv, rfl, o, ka, bb, hc, hl, h⟩ := h
    refine ⟨_, (pss_cons (ps_if (pt_cmpR (op_neG (E := C8.E0) F1 T.e_Sizes T.i_Sizes.hm T.ne_Sizes b1 (fun _ _ _ _ _ _ _ h => h.elim) (hr.mono (by decide))) (pe_fldK (K := K) rfl (pv 1) rfl) (pe_fldK (K := K) rfl (pv 0) rfl) (nomark _)) (pss_one ps_never) pss_nil)
      (pss_one (ps_ret (C8.pe_c c_centered hr (by decide) rfl (pa_cons (pe_op op_sub (pe_fldK (K := K) rfl (pv 1) rfl) (C8.pe_mt c_masked hr (by decide) (pv 0) (pa_cons (C8.pe_mt0 c_mask hr (by decide) (pv 1)) pa_nil))) (pa_cons (pe_fldK (K := K) rfl (pv 0) rfl) pa_nil)))))), ?_⟩
    obtain ⟨⟨dx, bl, pb, pp, ha, hb⟩, hs⟩ := id ka
    obtain ⟨ds, hs'⟩ := id hs
    obtain ⟨dc, mp, ec, fc⟩ := id hc
    walk_at "q"
    refine ⟨_, _, _, _, _, rfl, ec, T.c_Cover, T.n_Cover_sizes, rfl, ?_⟩
    walk_at "q"
    refine ⟨_, _, _, _, _, rfl, ha, T.c_Key, T.n_Key_sizes, rfl, ?_⟩
    walk_at "q"
    refine ⟨⟨_, _, _, _, _, _, rfl, rfl, hs', hs', z, hs, hs⟩, fun H1 e1 => ?_⟩
    walk_at "q"
    refine ⟨_, _, _, _, _, rfl, (e1 _ _ ec), T.c_Cover, T.n_Cover_body, rfl, ?_⟩
    walk_at "q"
    refine ⟨a, dx, _, rfl, e1 _ _ ha, by rfl, ?_⟩
    walk_at "q"
    refine ⟨c, dc, _, rfl, e1 _ _ ec, by rfl, ?_⟩
    walk_at "q"
    refine ⟨c, so, cv, rfl, hc.same e1, fun r H2 nr s2 hr2 => ?_⟩
    have s12 : Same H H2 := Same.trans e1 s2
    refine ⟨a, so, r, z, bs, cv.m, rfl, ka.same s12, hr2, hl, bb, fun H3 s3 => ?_⟩
    have s13 := s12.trans s3
    walk_at "q"
    refine ⟨_, _, _, _, _, rfl, (s13 _ _ ha), T.c_Key, T.n_Key_sizes, rfl, ?_⟩
    walk_at "q"
    exact ⟨so, z, _, rfl, o, hs.same s13, h _ s13⟩
end
end K20

set_option Elab.async false
set_option linter.all false
set_option maxRecDepth 100000
set_option maxHeartbeats 4000000
/-! K20: the two own errors made: super().__init__ of an exception, two fields. -/
namespace PySem
namespace K20X
open PySem.W PySem.Calls PyProof.Rows PySem.HandSPX K20
def xA (f : Str) (p1 p2 : Pos) : Arguments := { posonlyargs := [], args := [{ arg := "self", annotation := none, pos := p1 }, { arg := f, annotation := none, pos := p2 }], vararg := none, kwonlyargs := [], kw_defaults := [], kwarg := none, defaults := [] }
def xB (txt cn f : Str) (j1 j2 : Nat) (p : Nat → Pos) : List Stmt :=
  [.Expr (.Call (.Attribute (.Call (.Name "super" (p 0)) [] [] (p 1)) "__init__" (p 2)) [.Constant (.str txt) j1 (p 3)] [] (p 4)) (p 5),
   .Assign [.Attribute (.Name "self" (p 6)) "code" (p 7)] (.Constant (.str cn) j2 (p 8)) (p 9),
   .Assign [.Attribute (.Name "self" (p 10)) f (p 11)] (.Name f (p 12)) (p 13)]
def xS (f : Str) : Scope := { kind := .function, names := [("self", .local), (f, .local), ("__class__", .free), ("super", .globalImplicit)], isGenerator := false, isCoroutine := false, more := [] }
/-- the text of the def is such a one -/
structure XDef (K : Frag) (cn f : Str) (fI cda cc : Addr) : Prop where
  ex : ∃ (oc : Value) (od : Option Addr) (kV doc pm : Value) (an : Option Addr) (ct : Value) (osl : Array (Option Value)) (qual txt : Str) (p1 p2 : Pos) (j1 j2 : Nat) (p : Nat → Pos),
    K.lookup fI = some ⟨oc, od, .func { fnOf "__init__" qual (xA f p1 p2) (xB txt cn f j1 j2 p) (xS f) .none kV doc pm an (.ref cda) ct with closure := [("__class__", cc)] }, osl⟩ ∧ codeIn K (.ref cda) qual = true ∧
    (∀ a b : Value, bindArgs { fnOf "__init__" qual (xA f p1 p2) (xB txt cn f j1 j2 p) (xS f) .none kV doc pm an (.ref cda) ct with closure := [("__class__", cc)] } ⟨[a, b], []⟩ = pure [(("self" : Str), a), (f, b)]) ∧
    ∃ pl, ∀ env, eval (.Call (.Attribute (.Call (.Name "super" (p 0)) [] [] (p 1)) "__init__" (p 2)) [.Constant (.str txt) j1 (p 3)] [] (p 4)) env = (do
      let ov ← attributeBase (.Call (.Name "super" (p 0)) [] [] (p 1)) "__init__" env (eval (.Call (.Name "super" (p 0)) [] [] (p 1)) env)
      standAt (p 2).atName
      let (f, first) ← holding [ov] (getMethod ov "__init__" pl)
      callWith (p 4) f first (backTo (p 4) (starEach [.Constant (.str txt) j1 (p 3)] env)) [])
/-- what is left of a fresh exception at x -/
structure InitEnd (h h' : Heap) (x C dx : Addr) (cn f : Str) (v : Value) : Prop where
  keep : ∀ b o, b ≠ x → h.get? b = some o → h'.get? b = some o
  obj : ∃ t1 : Addr, h'.get? x = some { cls := .ref C, dict := some dx, data := .fields #[.ref t1, .none, .none, .none, .bool false, .none] }
  dbig : h.objs.size ≤ dx
  dne : dx ≠ x
  ns : ∃ tk, h'.Ns1 dx (fun y => if y = f then some v else if y = "code" then some (.str cn tk) else none)
structure OwnMade (h h' : Heap) (e C d : Addr) (cn f : Str) (v : Value) : Prop where
  keep : ∀ b o, h.get? b = some o → h'.get? b = some o
  new : h.objs.size ≤ e
  obj : ∃ oe vs, h'.get? e = some oe ∧ oe.cls = .ref C ∧ oe.dict = some d ∧ oe.data = .fields vs ∧ vs[1]? = some .none ∧ vs[2]? = some .none
  dbig : h.objs.size ≤ d
  dne : d ≠ e
  ns : ∃ tk, h'.Ns1 d (fun y => if y = f then some v else if y = "code" then some (.str cn tk) else none)
/-- what the names mean at the heap -/
structure TopAt (prog : Program) (h : Heap) : Prop where
  lim : h.NoLimit
  glob : ∃ mg, h.Ns mainGlobals mg ∧ mg "super" = none
  blt : ∃ mb, h.Ns builtinsNs mb ∧ mb "super" = bootBuiltins "super"
  top : (prog.main.scope.names.lookup ("super" : Str)).isSome = false
  file : ((prog.main.file : Str) == "/claim/cut.py") = true
section
variable {prog : Program} {w : World} {A : Around} {E : Value → Shared → Prop} {R : Result → Shared → Prop} {s : Shared} {K : Frag} {C fI cda cc : Addr} {cn f : Str}
theorem exb_init (T : ExcB K C f fI cda cc) (D : XDef K cn f fI cda cc) (nf1 : f ≠ "self") (nf2 : f ≠ "__class__") (nf3 : f ≠ "super") (nf4 : (f == ("__debug__" : Str)) = false) {x t0 : Addr} {v : Value} (X : K.In s.heap) (G : TopAt prog s.heap) (hx : s.heap.get? x = some (excO C t0)) (hnx : K.lookup x = none) (hroom : A.depth < recursionLimit)
    (hq : ∀ h' tk dx, InitEnd s.heap h' x C dx cn f v → R (.ok (.ret .none)) { s with heap := h', toks := tk }) :
    codeAny (model prog w) A (.call (.ref fI) ⟨[.ref x, v], []⟩) R s := by
  obtain ⟨oc, od, kV, doc, pm, an, ct, osl, qual, txt, p1, p2, j1, j2, p, ho, hcd, hbd, pl, hev⟩ := D.ex
  obtain ⟨nm, q, N, bs, bm, sn, sub, ab, col, dd, k0, k1, k2, k3, k5, hC, hbm⟩ := T.cls
  have hcl : clsIn K C = some { name := nm, bases := bs, mro := .ref C :: bm, ns := N, qualname := q, hasDict := true, slotNames := sn, subclasses := sub, abstract := ab, collection := col, hasDel := false } := by unfold clsIn; rw [hC] <;> rfl
  obtain ⟨fc, fd', fsl, hcell⟩ := T.cell
  obtain ⟨yc, yd, vs, ysl, tf, hfile, hvs⟩ := T.file
  obtain ⟨hh, g, d, t, os⟩ := s
  have en1 : (f == ("self" : Str)) = false := by simpa using nf1
  have en1' : (("self" : Str) == f) = false := by simpa using Ne.symm nf1
  have en2' : (("__class__" : Str) == f) = false := by simpa using Ne.symm nf2
  have en3' : (("super" : Str) == f) = false := by simpa using Ne.symm nf3
  have lkS : (xS f).names.lookup ("self" : Str) = some .local := by simp [xS, List.lookup]
  have lkF : (xS f).names.lookup f = some .local := by simp [xS, List.lookup, en1]
  have lkC : (xS f).names.lookup ("__class__" : Str) = some .free := by
    have : (("__class__" : Str) == ("self" : Str)) = false := by decide
    simp [xS, List.lookup, this, en2']
  have lkU : (xS f).names.lookup ("super" : Str) = some .globalImplicit := by
    have a : (("super" : Str) == ("self" : Str)) = false := by decide
    have b : (("super" : Str) == ("__class__" : Str)) = false := by decide
    simp [xS, List.lookup, a, b, en3']
  refine ks_codeAny_call_defAt (s := ⟨hh, g, d, t, os⟩) (fd := { fnOf "__init__" qual (xA f p1 p2) (xB txt cn f j1 j2 p) (xS f) .none kV doc pm an (.ref cda) ct with closure := [("__class__", cc)] }) (body := xB txt cn f j1 j2 p) (binds := [("self", .ref x), (f, v)])
    hroom (X _ _ ho) rfl G.lim (codeRec_of X hcd) rfl (BindsTo.of_eq ?_) ?_ ?_ (fun h₁ hn k => ?_)
  · exact hbd _ _
  · intro y hy
    simp [xS, fnOf] at hy
    rcases hy with rfl | rfl | rfl | rfl <;> exact fun e => by cases e
  · intro y hy
    rcases List.mem_cons.mp hy with rfl | hy
    · exact lkS
    · rw [List.mem_singleton.mp hy]; exact lkF
  have X₁ : K.In h₁ := X.keeps k
  have hx₁ := k _ _ hx
  have I₁ : InstAt h₁ x (excO C t0) C none := ⟨hx₁, rfl, rfl, trivial⟩
  generalize hfd : ({ fnOf "__init__" qual (xA f p1 p2) (xB txt cn f j1 j2 p) (xS f) .none kV doc pm an (.ref cda) ct with closure := [("__class__", cc)] } : FuncData) = fd
  have eS : fd.scope = xS f := by rw [← hfd] <;> rfl
  have hk : (callEnv fd hh.objs.size fI).scope.kind = .function := by rw [← hfd] <;> rfl
  have kS : (callEnv fd hh.objs.size fI).kindOf "self" = some .local := by rw [← hfd]; exact lkS
  have kF : (callEnv fd hh.objs.size fI).kindOf f = some .local := by rw [← hfd]; exact lkF
  have kC : (callEnv fd hh.objs.size fI).kindOf "__class__" = some .free := by rw [← hfd]; exact lkC
  have kU : (callEnv fd hh.objs.size fI).kindOf "super" = some .globalImplicit := by rw [← hfd]; exact lkU
  have mS : (fun y => List.lookup y [(("self" : Str), Value.ref x), (f, v)].reverse) "self" = some (.ref x) := by
    simp [List.lookup, en1']
  have mF : (fun y => List.lookup y [(("self" : Str), Value.ref x), (f, v)].reverse) f = some v := by simp [List.lookup]
  show _root_.PySem.wpAt _ _ _ (execs (_ :: _) _) _ _ _
  refine ks_wpAt_execs_cons (ks_wpAt_Expr_any (ks_wpAt_MethodCall (he := hev _) ?_) (by rw [← hfd] <;> rfl))
  · obtain ⟨oD, hD1, hD2⟩ : ∃ oD, h₁.get? C = some oD ∧ ∃ cdD, oD.data = .cls cdD := ⟨_, X₁ _ _ hC, _, rfl⟩
    obtain ⟨cdD, hD2⟩ := hD2
    obtain ⟨mg, hmg, hsu⟩ := G.glob
    obtain ⟨mb, hmb, hbu⟩ := G.blt
    have ef : (callEnv fd hh.objs.size fI).func = some fI := rfl
    have ec : (callEnv fd hh.objs.size fI).code = .ref cda := by rw [← hfd] <;> rfl
    have eg : (callEnv fd hh.objs.size fI).globals = mainGlobals := by rw [← hfd] <;> rfl
    have eb : (callEnv fd hh.objs.size fI).builtins = builtinsNs := by rw [← hfd] <;> rfl
    have hp : (fd.params.posonlyargs ++ fd.params.args).head? = some { arg := "self", annotation := none, pos := p1 } := by rw [← hfd] <;> rfl
    have hofd : h₁.get? fI = some ⟨oc, od, .func fd, osl⟩ := by rw [← hfd]; exact X₁ _ _ ho
    refine ks_wpAt_super_base (env := callEnv fd hh.objs.size fI) kU kC (by decide) ef hofd rfl hp ec (X₁ _ _ hfile) rfl hvs G.file G.top ?_
    refine ks_loadName_global hk kU (loadGlobal_builtin (env := callEnv fd hh.objs.size fI) (by rw [eg]; exact hmg.keeps k) hsu (by rw [eb]; exact hmb.keeps k) (hbu.trans (show bootBuiltins "super" = some (.type "super") from by decide +kernel)) ⟨rfl, ?_⟩)
    refine wpAny_loadName_free hk kC (c := cc) (by rw [← hfd] <;> rfl) ⟨_, X₁ _ _ hcell, rfl⟩ ?_
    refine wpAny_loadName_local hk kS hn mS ?_
    refine ks_wpAny_isType_cls hD1 hD2 ⟨rfl, ?_⟩
    refine ks_wpAny_call_super hD1 hD2 I₁.at_ I₁.cls (fun c e => by cases e) (looks_mroIn X₁ T.self) (fun h₂ e₂ k₂ => ?_)
    have X₂ : K.In h₂ := X₁.keeps k₂
    have hx₂ := k₂ _ _ hx₁
    have I₂ : InstAt h₂ x (excO C t0) C none := ⟨hx₂, rfl, rfl, trivial⟩
    have hsup := T.sup
    unfold ks_superIn at hsup
    rw [hcl] at hsup
    refine kxs_getMethod kxs_ValueError e₂ (looks_opaque X₂ T.opq) (fun A Q E s k q => wpAny_bind ((looks_clsIn X₂ hcl) A _ E s k (wpAny_pure q))) rfl X₂ hsup (I₂.type.andThen (looks_subIn X₂ T.sub)) (ks_ne X₂ I₂ hcl) (by decide) ?_
    refine kxs_callWith (i := "ValueError.__init__") (x := x) rfl (evalArgs_plain (PyProof.Rows.args_cons (wpAny_Constant_str (PyProof.Rows.args_nil ⟨?_, ?_⟩)) rfl))
    · exact Heap.get?_push_at rfl rfl
    refine wpAny_call (codeAny_of_tree ?_)
    show wpAny _ (Around.in1 _) (callAny (.ref h₂.objs.size) ⟨[_], []⟩) _ _ _
    simp only [callAny]
    refine wpAny_bind (wpAny_load (Heap.get?_push_at rfl rfl) ?_)
    simp only [kxs_mw, show (Value.type "method-wrapper" == Value.type "method" || Value.type "method-wrapper" == Value.type "builtin_function_or_method" || Value.type "method-wrapper" == Value.type "method-wrapper") = true by decide, if_true]
    refine KFB.if_so (by decide) ?_
    have hC₃ := X₂ _ _ hC
    have up : ∀ b o, h₂.get? b = some o → (h₂.push (kxs_mw "ValueError.__init__" x)).get? b = some o := fun b o e => Heap.get?_push_of_some _ e
    refine wpAny_bind (check_bound_init F.excBase_ValueError.toExcCallFacts (up _ _ hC₃) (up _ _ hx₂) rfl ?_)
    refine wpAny_bind (wpAny_pure (wpAny_pure ?_))
    refine ⟨plainId_quiet F.excBase_ValueError.init.plain _, codeAny_builtin F.excBase_ValueError.initEntry ?_⟩
    refine exc_init_tree (cls := .ref C) (t0 := t0) (dv := none) (c2 := .none) (c3 := .none) (b4 := .bool false) (up _ _ hx₂) (by show 1 ≤ sizeLine; rw [sizeLine_eq]; omega) (fun h₃ k₃ e₃ _ => ?_)
    obtain ⟨t1, e₃⟩ : ∃ t1 : Addr, h₃.get? x = some (excO C t1) := ⟨_, e₃⟩
    show wpAt _ _ _ (execs (_ :: _) _) _ _ _
    refine wpAt_of_wpAny ?_
    have hn₃ : h₃.Ns hh.objs.size _ := hn.at fun o e => k₃ _ _ (Nat.ne_of_gt (Heap.lt_size hx)) (up _ _ (k₂ _ _ e))
    have kk : ∀ b o, b ≠ x → hh.get? b = some o → h₃.get? b = some o := fun b o nb e => k₃ b o nb (up _ _ (k₂ _ _ (k b o e)))
    have X₃ : K.In h₃ := fun a o e => k₃ _ _ (fun z => by rw [z, hnx] at e; cases e) (up _ _ (X₂ a o e))
    refine wpAny_execs_cons (plainObj_wpAny_Assign_Attribute ?_)
    refine wpAny_Constant_str (wpAny_Name (wpAny_loadName_local hk kS hn₃ mS ?_) (by decide))
    refine set_plain X₃ (ox := excO C t1) (od := none) ⟨e₃, rfl, rfl, trivial⟩ T.sa ?_
    refine exc_osa X₃ e₃ hcl (show refsVE (.ref C :: bm) = true from hbm) rfl T.noC (fun h₄ tk₄ dx k₄ dn dne hx₄ hn₄ => ?_)
    show wpAny _ _ (execs (_ :: _) _) _ _ _
    have X₄ : K.In h₄ := fun a o e => k₄ _ _ (fun z => by rw [z, hnx] at e; cases e) (X₃ a o e)
    have hnL : h₄.Ns hh.objs.size _ := hn₃.at fun o e => k₄ _ _ (Nat.ne_of_gt (Heap.lt_size hx)) e
    refine wpAny_execs_cons (plainObj_wpAny_Assign_Attribute ?_)
    refine wpAny_Name (wpAny_loadName_local hk kF hnL mF (wpAny_Name (wpAny_loadName_local hk kS hnL mS ?_) (by decide))) nf4
    obtain ⟨oD, _, _, hoD, _, _⟩ := hn₄.count (ns := ["code"]) (fun y hy => by
      by_cases e : y = "code"
      · rw [e]; exact List.mem_singleton.mpr rfl
      · exact absurd (if_neg e) hy)
    refine set_plain X₄ (ox := { cls := .ref C, dict := some dx, data := .fields #[.ref t1, .none, .none, .none, .bool false, .none] }) (od := some oD) ⟨hx₄, rfl, rfl, hoD⟩ T.sa ?_
    refine PySem.OEX.osa_old X₄ hx₄ hn₄ (nl := ["code"]) (fun y hy => by
      by_cases e : y = "code"
      · rw [e]; exact List.mem_singleton.mpr rfl
      · exact absurd (if_neg e) hy) (by decide) hcl (show refsVE (.ref C :: bm) = true from hbm) rfl T.noF (fun h₅ tk₅ k₅ hn₅ => ?_)
    show wpAny _ _ (execs _ _) _ _ _
    have big : hh.objs.size ≤ dx := by
      have l1 : hh.objs.size < h₃.objs.size := hn₃.lt
      have l2 : h₃.objs.size ≤ dx := dn
      exact Nat.le_of_lt (Nat.lt_of_lt_of_le l1 l2)
    refine wpAny_execs_nil (hq h₅ tk₅ dx ⟨fun b o nb e => k₅ b o (Nat.ne_of_lt (Nat.lt_of_lt_of_le (Heap.lt_size e) big)) (k₄ b o nb (kk b o nb e)), ⟨t1, k₅ _ _ dne.symm hx₄⟩, big, dne, ⟨_, hn₅⟩⟩)
theorem one_size (v : Value) : [v].length ≤ sizeLine := by
  rw [sizeLine_eq]
  exact (by decide : 1 ≤ 16777216)
theorem exb_made (T : ExcB K C f fI cda cc) (D : XDef K cn f fI cda cc) (nf1 : f ≠ "self") (nf2 : f ≠ "__class__") (nf3 : f ≠ "super") (nf4 : (f == ("__debug__" : Str)) = false) {v : Value} (X : K.In s.heap) (G : TopAt prog s.heap) (hroom : A.depth + 1 < recursionLimit)
    (hq : ∀ h' tk e d, OwnMade s.heap h' e C d cn f v → R (.ok (.ret (.ref e))) { s with heap := h', toks := tk }) :
    codeAny (model prog w) A (.call (.ref C) ⟨[v], []⟩) R s := by
  obtain ⟨nm, q, N, bs, bm, sn, sub, ab, col, dd, k0, k1, k2, k3, k5, hC, hbm⟩ := T.cls
  obtain ⟨hp, g, dr, tk, os⟩ := s
  have k : ∀ b o, hp.get? b = some o → ((hp.push (kdv_tup [v])).push (excO C hp.objs.size)).get? b = some o := fun b o e => Heap.get?_push_of_some _ (Heap.get?_push_of_some _ e)
  have hget : ((hp.push (kdv_tup [v])).push (excO C hp.objs.size)).get? (hp.objs.size + 1) = some (excO C hp.objs.size) := by heap_get
  have hnx : K.lookup (hp.objs.size + 1) = none := by
    cases e : K.lookup (hp.objs.size + 1) with
    | none => rfl
    | some o =>
      have z : hp.get? (hp.objs.size + 1) = some o := X _ _ e
      exact absurd (Nat.lt_of_succ_lt (Heap.lt_size z)) (Nat.lt_irrefl _)
  obtain ⟨l1, ⟨mg, g1, g2⟩, ⟨mb, b1, b2⟩, t1, t2⟩ := G
  refine call_own F.excBase_ValueError (fun X => refsVE_contains X bm hbm) (X _ _ hC) (looks_findIn X T.iC) (fun self => bind_fn X self T.tI) (one_size v) ?_
  refine exb_init (s := ⟨(hp.push (kdv_tup [v])).push (excO C hp.objs.size), g, dr, tk, os⟩) T D nf1 nf2 nf3 nf4 (X.keeps k) ⟨l1.keeps k, ⟨mg, g1.keeps k, g2⟩, ⟨mb, b1.keeps k, b2⟩, t1, t2⟩ hget hnx ?_ fun h' tk' dx M => ?_
  · show A.depth + 1 < recursionLimit
    exact hroom
  · obtain ⟨k', ⟨t1, hx⟩, dn, dne, hns⟩ := M
    have old : ∀ b o, hp.get? b = some o → h'.get? b = some o := fun b o e => k' b o (Nat.ne_of_lt (Nat.lt_succ_of_lt (Heap.lt_size e))) (k b o e)
    have z : hp.objs.size + 1 + 1 ≤ dx := by
      first
        | (simpa only [Heap.size_push] using dn)
        | exact dn
        | (have q := dn; rw [Heap.size_push, Heap.size_push] at q; exact q)
    exact ⟨rfl, hq h' tk' (hp.objs.size + 1) dx ⟨old, Nat.le_succ _, ⟨_, _, hx, rfl, rfl, rfl, rfl, rfl⟩, Nat.le_trans (Nat.le_trans (Nat.le_succ _) (Nat.le_succ _)) z, dne, hns⟩⟩
end
end K20X
end PySem
namespace K20
open PySem PySem.Spec PyProof.Rows L2
section
variable {X : Cx} {C fI cda cc : Addr} {cn f : Str}
/-- the error at C, made of a value -/
def tMkB (C : Addr) (cn f : Str) (ta : TA) : L2.St → Hp → XK → Prop := fun σ H Q => ta σ H fun vs H1 => ∃ v, vs = [v] ∧ ∀ d, H1 d = none → Q (.ref C) (some d) (upd H1 d (.xd [(f, v), ("code", .str cn)]))
/-- the program's main file and its names -/
structure PTop (P : Program) : Prop where
  top : (P.main.scope.names.lookup ("super" : Str)).isSome = false
  file : ((P.main.file : Str) == "/claim/cut.py") = true
theorem pmk_xb {a : Expr} {ta : TA} {x : Str} {p pos : Pos} {k : Nat} (T : ExcB X.K C f fI cda cc) (D : PySem.K20X.XDef X.K cn f fI cda cc) (nf1 : f ≠ "self") (nf2 : f ≠ "__class__") (nf3 : f ≠ "super") (nf4 : (f == ("__debug__" : Str)) = false)
    (gC : X.mg x = some (.ref C)) (sup : X.mg "super" = none) (hP : PTop X.prog) (hr : Room (k + 1) X.A) (ha : PA X [a] ta) (hg : Gl X x := by rfl) (hdb : (x == ("__debug__" : Str)) = false := by decide)
    (he : starEach (a :: []) X.env = (false, eval a X.env) :: starEach [] X.env := by rfl) (hpl : (backTo pos (starEach [] X.env)).any (·.1) = false := by rfl) :
    L2N.PMk X (.Call (.Name x p) [a] [] pos) (tMkB C cn f ta) := by
  intro pins s σ H Q I h
  refine wpAny_Call_Name_kw (ld_glob I hg gC ?_ hdb)
  refine PySem.W.callWith_K (h₀ := X.base) I.ok.mod.kin T.kC (thn (ha.run pos pins s σ H _ I h) fun us s1 hh => ?_) he hpl
  obtain ⟨vs, H1, I1, r1, v, ev, q1⟩ := hh
  subst ev
  refine ⟨I1.kIn, ?_⟩
  cases r1 with
  | cons rv rn =>
    rename_i v' us'
    cases rn
    show wpAny _ _ (call (.ref C) [v']) _ _ _
    have hlim := I1.nolimit
    have hgl : ∃ mg, s1.heap.Ns mainGlobals mg ∧ mg "super" = none := ⟨X.mg, I1.mod.glob.keeps I1.bk, sup⟩
    have hbl : ∃ mb, s1.heap.Ns builtinsNs mb ∧ mb "super" = bootBuiltins "super" := by
      obtain ⟨mb, h1, h2⟩ := I1.mod.blt
      exact ⟨mb, h1.keeps I1.bk, h2 _ (by decide)⟩
    obtain ⟨hp, g, dr, tk, os⟩ := s1
    refine wpAny_call (PySem.K20X.exb_made T D nf1 nf2 nf3 nf4 I1.kIn ⟨hlim, hgl, hbl, hP.top, hP.file⟩ (by have := hr.dp; omega) fun h' tk' e d M => ?_)
    show L2N.MkP X pins σ Q (.ref e) ⟨h', g, dr, tk', os⟩
    obtain ⟨oe, fv, hoe, hc, hd, hdat, h1, h2⟩ := M.obj
    obtain ⟨tkc, hns⟩ := M.ns
    obtain ⟨G', g1, g2⟩ := restrict h' fun b => decide (b ≠ e)
    have gk : ∀ b, b ≠ e → G'.get? b = h'.get? b := fun b hb => g1 b (decide_eq_true hb)
    have ge : G'.get? e = none := g2 e (by simp)
    have old : ∀ b o, hp.get? b = some o → G'.get? b = some o := fun b o q => (gk b (Nat.ne_of_lt (Nat.lt_of_lt_of_le (Heap.lt_size q) M.new))).trans (M.keep b o q)
    have ob : ObjOk X.prog X.w (upd H1 d (.xd [(f, v), ("code", .str cn)])) G' d (.xd [(f, v), ("code", .str cn)]) :=
      ⟨_, hns.at (fun o q => (gk d M.dne).trans q), relO_put rv (relO_put (fs := []) (y := .str cn) (u := .str cn tkc) (mA := fun _ => none) ⟨_, rfl⟩ fun _ => True.intro)⟩
    have J : Inv X pins σ (upd H1 d (.xd [(f, v), ("code", .str cn)])) ⟨G', g, dr, tk', os⟩ := I1.laid (t' := tk') old M.dbig ob
    refine ⟨e, oe, fv, ⟨G', g, dr, tk', os⟩, _, .ref C, some d, rfl, J, fun b o q => ?_, ge, hoe, ⟨hc, hd, fun vs e => by rw [hdat] at e; cases e; exact h2⟩, hdat, h1, ?_, rfl, I1.bare, raises_own T.xf.exC T.tC, q1 d (I1.hok.fresh M.dbig)⟩
    · by_cases hb : b = e
      · have q' : G'.get? b = some o := q
        rw [hb, ge] at q'; cases q'
      · exact (gk b hb).symm.trans q
    · rw [upd_ne (Ne.symm M.dne)]
      exact I1.hok.fresh M.new
/-- the two texts -/
theorem xdef_at {K : Fr} {qual : Str} {st : Stmt} {fI cda cc : Addr} {cn f txt : Str} {p1 p2 : Pos} {j1 j2 : Nat} {p : Nat → Pos} {pl : Sem Bool} (D : DfC K "__init__" qual st [("__class__", cc)] fI cda) (ea : C8.fnArgs st = PySem.K20X.xA f p1 p2) (eb : C8.fnBody st = PySem.K20X.xB txt cn f j1 j2 p) (es : C8.fnScope st = PySem.K20X.xS f)
    (hbd : ∀ (kV doc pm ct : Value) (an : Option Addr) (a b : Value), bindArgs { PySem.W.fnOf "__init__" qual (PySem.K20X.xA f p1 p2) (PySem.K20X.xB txt cn f j1 j2 p) (PySem.K20X.xS f) .none kV doc pm an (.ref cda) ct with closure := [("__class__", cc)] } ⟨[a, b], []⟩ = pure [(("self" : Str), a), (f, b)])
    (hev : ∀ env, eval (.Call (.Attribute (.Call (.Name "super" (p 0)) [] [] (p 1)) "__init__" (p 2)) [.Constant (.str txt) j1 (p 3)] [] (p 4)) env = (do
      let ov ← attributeBase (.Call (.Name "super" (p 0)) [] [] (p 1)) "__init__" env (eval (.Call (.Name "super" (p 0)) [] [] (p 1)) env)
      standAt (p 2).atName
      let (f, first) ← holding [ov] (getMethod ov "__init__" pl)
      callWith (p 4) f first (backTo (p 4) (starEach [.Constant (.str txt) j1 (p 3)] env)) [])) : PySem.K20X.XDef K cn f fI cda cc := by
  obtain ⟨oc, od, kV, doc, pm, an, ct, osl, h1, h2⟩ := D.ex
  rw [ea, eb, es] at h1
  exact ⟨⟨oc, od, kV, doc, pm, an, ct, osl, qual, txt, p1, p2, j1, j2, p, h1, h2, hbd kV doc pm ct an, pl, hev⟩⟩
end
end K20

set_option Elab.async false
set_option linter.all false
set_option maxRecDepth 100000
set_option maxHeartbeats 4000000
namespace K20
open PySem PySem.Spec PyProof.Rows L2
local macro_rules | `(tactic| walk_at "q1") => `(tactic| first
  | with_reducible refine r_seq ?_ | with_reducible refine r_asg ?_ | with_reducible refine r_name ?_ | with_reducible refine r_ret ?_ | with_reducible refine r_ifS ?_ | with_reducible refine r_next ?_ | with_reducible refine r_drop ?_
  | ((with_reducible show tVar _ _ _ _); refine ⟨_, rfl, ?_⟩) | with_reducible refine r_c ?_ | with_reducible refine r_op ?_ | with_reducible refine r_un ?_ | with_reducible refine r_I0 ?_ | with_reducible refine r_U ?_
  | with_reducible refine r_eqI ?_ | with_reducible refine r_neI ?_ | with_reducible refine r_neB ?_ | with_reducible refine r_cb ?_ | with_reducible refine r_cons ?_ | with_reducible refine r_nil ?_ | with_reducible refine r_test ?_ | with_reducible refine r_tB ?_
  | with_reducible refine r_bl ?_ | with_reducible refine r_not ?_ | with_reducible refine r_notV ?_ | with_reducible refine r_and ?_ | with_reducible refine r_or ?_ | with_reducible refine r_andV ?_ | with_reducible refine r_orV ?_ | with_reducible refine r_if ?_
  | with_reducible refine r_T ?_ | with_reducible refine r_F ?_ | with_reducible refine r_NT ?_ | with_reducible refine r_NF ?_ | with_reducible refine r_call ?_ | with_reducible refine r_meth ?_ | with_reducible refine r_int1 ?_ | with_reducible refine r_fld ?_
  | with_reducible refine r_tup ?_ | with_reducible refine r_lst ?_ | with_reducible refine r_par ?_ | with_reducible refine r_par3 ?_ | with_reducible refine r_two ?_ | with_reducible refine r_three ?_ | with_reducible refine r_abs ?_ | with_reducible refine r_max ?_
  | with_reducible refine r_lc ?_ | with_reducible refine r_for ?_ | with_reducible refine r_iList ?_ | with_reducible refine r_iTup ?_ | with_reducible refine r_revL ?_ | with_reducible refine r_star ?_ | with_reducible refine r_bits ?_ | with_reducible refine r_iRng ?_ | with_reducible refine r_iEnum ?_ | with_reducible refine r_iZip ?_ | with_reducible refine r_sub ?_ | with_reducible refine r_sfld ?_ | with_reducible refine r_bm ?_
  | with_reducible refine r_methK ?_ | with_reducible refine r_methS ?_ | with_reducible refine r_make ?_ | with_reducible refine r_mod ?_ | with_reducible refine r_gtup ?_ | with_reducible refine r_gcons ?_ | with_reducible refine r_gnil ?_ | with_reducible refine r_slc ?_ | with_reducible refine r_part ?_ | with_reducible refine r_noPart ?_)
local macro_rules | `(tactic| walk_at "nw") => `(tactic| (intro p hp; generalize hu : upd _ p _ = H1; obtain ⟨s1, hp1⟩ := nwx hp hu; clear hu))
local macro_rules | `(tactic| walk_at "q") => `(tactic| repeat walk_at "q1")
section
variable {P : Program} {w : World} {K : Fr} {mg : Str → Option Value} {base : Heap}
def bodyPos (st : Stmt) (i : Nat) : Pos := match C8.fnBody st with
  | [.Expr (.Call (.Attribute (.Call (.Name _ p0) [] [] p1) _ p2) [.Constant _ _ p3] [] p4) p5, .Assign [.Attribute (.Name _ p6) _ p7] (.Constant _ _ p8) p9, .Assign [.Attribute (.Name _ p10) _ p11] (.Name _ p12) p13] =>
    [p0, p1, p2, p3, p4, p5, p6, p7, p8, p9, p10, p11, p12, p13].getD i ⟨0, 0, 0, 0⟩
  | _ => ⟨0, 0, 0, 0⟩
theorem xd_BadList (T : Txt K mg) : PySem.K20X.XDef K "BadList" "at" 113 112 101 :=
  xdef_at (p := bodyPos (meth 6 0)) T.f_BadList_init rfl rfl rfl (fun _ _ _ _ _ _ _ => rfl) (fun _ => rfl)
theorem xd_InvalidNumber (T : Txt K mg) : PySem.K20X.XDef K "InvalidNumber" "value" 50 49 38 :=
  xdef_at (p := bodyPos (meth 3 0)) T.f_InvalidNumber_init rfl rfl rfl (fun _ _ _ _ _ _ _ => rfl) (fun _ => rfl)
end
end K20

set_option Elab.async false
set_option linter.all false
set_option maxRecDepth 100000
set_option maxHeartbeats 4000000
/-! K20: enumerate over a tuple. -/
namespace PySem
namespace K20E
theorem drawsT {prog : Program} {w : World} {A : Around} (hA : A.handled = none) (it b : Addr) (nb : b ≠ it) (xs : Array Value) :
    Draws prog w A it [it, b] xs.size (fun k u => xs[k]? = some u) (fun k h => h.IsTupleIter it b k ∧ h.IsTuple b xs) where
  live := fun _ _ st => let ⟨o, ho, _⟩ := st.1; ⟨o, ho⟩
  frame := fun _ _ _ st kk => ⟨st.1.at fun o q => kk it (by simp) o q, st.2.at fun o q => kk b (by simp) o q⟩
  item := fun k s Q E lk st q => RZ.nextOf_tuple_item st.1 st.2 (x := xs[k]) (by simp [lk]) fun h2 hi2 sb => q _ h2 s.toks (by simp [lk]) ⟨hi2, st.2.extBut sb.extBut nb⟩ sb
  done := fun s Q E st q => RZ.nextOf_tuple_end hA st.1 st.2 (by simp) q
abbrev h1T (h : Heap) (b : Addr) : Heap := h.push { cls := .type "tuple_iterator", data := .fields #[.ref b, .int 0 0] }
abbrev h2T (h : Heap) (b : Addr) : Heap := (h1T h b).push { cls := .type "enumerate", data := .fields #[.none, .bool false, .ref h.objs.size, rawInt 0, .none, .none] }
theorem newT (b : Addr) (xs : Array Value) :
    Meets (Builtin.«enumerate.__new__» ⟨[.type "enumerate", .ref b], []⟩) (fun _ R s => s.heap.IsTuple b xs ∧ R (.ok (.ret (.ref (h1T s.heap b).objs.size))) { s with heap := h2T s.heap b }) :=
  .of_wp fun prog w A R s z => by
    obtain ⟨hp, g, d, tk, os⟩ := s
    obtain ⟨hb, z⟩ := z
    have hsb := sub_enumerate
    have hB : Heap.IsTuple (Shared.heap ⟨hp, g, d, tk, os⟩) b xs := hb
    wp_walk
    refine wpAny_stack_any fun st => wpAny_pure ?_
    split
    · rename_i c _ _ _ _ _
      cases (c == Value.type "enumerate") <;>
      · wp_walk using wpAny_pyIter_tuple hB
        exact ⟨_, rfl, z⟩
    · wp_walk using wpAny_pyIter_tuple hB
      exact ⟨_, rfl, z⟩
section
variable {prog : Program} {w : World} {A : Around} {E : Value → Shared → Prop} {s : Shared}
theorem callT {b : Addr} {xs : Array Value} {Q : Value → Shared → Prop} (hB : s.heap.IsTuple b xs)
    (q : ∀ h2, IsEnum h2 (s.heap.objs.size + 1) s.heap.objs.size 0 .none → h2.IsTupleIter s.heap.objs.size b 0 → (∀ c o, s.heap.get? c = some o → h2.get? c = some o) → Q (.ref (s.heap.objs.size + 1)) { s with heap := h2 }) :
    wpAny (model prog w) A (call (.type "enumerate") [.ref b]) Q E s := by
  refine callType_new F.called_enumerate (by decide) (F.typeCall_enumerate_1 _) (F.newCall_enumerate_1 _) (fun obj => F.args_object_init_2 obj _) F.entry_enumerate_new (newT b xs) ⟨hB, ?_⟩
  have z1 : (h1T s.heap b).objs.size = s.heap.objs.size + 1 := Heap.size_push ..
  have g2 : (h2T s.heap b).get? (h1T s.heap b).objs.size = some _ := Heap.get?_push_size _ rfl
  have g1 : (h2T s.heap b).get? s.heap.objs.size = some _ := Heap.get?_push_of_some _ (Heap.get?_push_size _ rfl)
  show _ ∧ _
  rw [z1] at g2
  rw [z1]
  exact ⟨⟨_, g2, rfl⟩, q _ g2 ⟨_, g1, rfl, rfl⟩ fun c o x => Heap.get?_push_of_some _ (Heap.get?_push_of_some _ x)⟩
theorem endT {e it b : Addr} {i : Nat} {xs : Array Value} {old : Value} {Q : Option Value → Shared → Prop} (hA : A.handled = none) (he : IsEnum s.heap e it i old) (hi : s.heap.IsTupleIter it b i) (hB : s.heap.IsTuple b xs) (hx : xs[i]? = none)
    (q : ∀ h2, Heap.ExtBut it s.heap h2 → Q none { s with heap := h2 }) : wpAny (model prog w) A (pyNext (.ref e)) Q E s := by
  have hT : s.TypeIs (.ref e) "enumerate" := ⟨_, he, rfl⟩
  unfold pyNext
  refine wpAny_bind (wpAny_attempt (wpAny_callSpecial?_slot (name := Str.ofString "__next__") hT F.slot_enumerate_next (wpAny_call_entry F.slot_enumerate_next hT F.entry_enumerate_next ?_ (F.args_enumerate_next_1 _))))
  show wpAny _ _ (field (.ref e) 2 >>= _) _ _ _
  refine wpAny_bind (wpAny_field he rfl (x := .ref it) rfl ?_)
  refine wpAny_bind (RZ.nextOf_tuple_end hA hi hB hx fun h2 x2 k2 hx2 => ?_)
  obtain ⟨o, ho, hc⟩ := hx2
  refine wpAny_bind (wpAny_isInstance (T := "StopIteration") (b := true) ⟨o, ho, hc⟩ isSubtype_stop ?_)
  exact wpAny_pure (q _ k2)
end
end K20E
end PySem
namespace K20
open PySem PySem.Spec PyProof.Rows L2 PySem.K20E
/-- the tuple at a, each item in a new pair -/
def IteT (K : Fr) (a : Addr) : It :=
  ⟨fun i H => ∃ (xs : List V) (x : V), SqT K H a xs ∧ xs[i]? = some x, fun i H v H' => ∃ T x, v = .ref T ∧ H T = none ∧ H' = upd H T (.tup [.int (i : Nat), x]) ∧ ∀ xs, SqT K H a xs → xs[i]? = some x, fun i H => ∃ xs : List V, SqT K H a xs ∧ xs.length ≤ i⟩
theorem turnT {P : Program} {w : World} {K : Fr} {elts : List Expr} {kk : Nat} {tpos : Pos} (a e it : Addr) :
    Turn P w K (.Tuple elts kk tpos) (IteT K a) [e, it] e (fun i h => (∃ old, IsEnum h e it ((i : Nat) : Int) old) ∧ h.IsTupleIter it a i ∧ e ≠ it ∧ a ≠ it ∧ a ≠ e) where
  mem := by simp
  obj := fun i h st b hb => by
    obtain ⟨⟨old, he⟩, ⟨o, ho, hc, hd⟩, _⟩ := st
    have eb : b = e ∨ b = it := by simpa using hb
    rcases eb with z | z
    · rw [z]; exact ⟨_, he, fun v q => nomatch q⟩
    · rw [z]; exact ⟨o, ho, fun v q => by rw [hd] at q; cases q⟩
  keep := fun i h h' st k => let ⟨⟨old, he⟩, hi, hne⟩ := st; ⟨⟨old, k e (by simp) _ he⟩, hi.at fun o q => k it (by simp) o q, hne⟩
  item := by
    intro X hP hw hK hc i pins s σ H E I hf st hg
    subst hP hw hK
    obtain ⟨⟨old, he⟩, hit, hne, n2, n3⟩ := st
    obtain ⟨xs, x, hq, hx⟩ := hg
    obtain ⟨its, rv, p, hz⟩ := I.tuple hq
    obtain ⟨u, hu, ru⟩ := rv.get hx
    have hel : e < s.heap.objs.size := Heap.lt_size he
    have hil : it < s.heap.objs.size := by obtain ⟨_, q, _⟩ := hit; exact Heap.lt_size q
    have hlt : i < its.toArray.size := by
      have := (List.getElem?_eq_some_iff.mp hu).1
      simpa using this
    refine wpAny_pyNext_enum_itemD (drawsT (prog := X.prog) (w := X.w) (A := X.A.in1) (I.ok.hd hc) it a n2 its.toArray) he ⟨hit, p⟩ hlt hne (by simp [hne, n3.symm]) fun u' h' tk hu' ho hst hT hsz hk => ?_
    have eu : u' = u := by
      have q : its[i]? = some u' := by simpa using hu'
      rw [hu] at q
      exact (Option.some.inj q).symm
    subst eu
    refine ⟨_, rfl, wpAny_letOwnedTupleGo_enum (s := { s with heap := h', toks := tk + 1 }) ho fun h'' he' sb => ?_⟩
    have hT2 : h''.get? s.heap.objs.size = some { cls := .type "tuple", data := .seq #[.int i tk, u'] } := (sb.2 _ (Nat.ne_of_gt hel)).trans hT
    have new : ObjOk X.prog X.w (upd H s.heap.objs.size (.tup [.int (i : Nat), x])) h'' s.heap.objs.size (.tup [.int (i : Nat), x]) :=
      ⟨by show 2 ≤ sizeLine; decide, [.int i tk, u'], .cons ⟨_, rfl⟩ (.cons ru .nil), ⟨_, hT2, rfl, _, rfl⟩⟩
    have I1 : Inv X pins σ (upd H s.heap.objs.size (.tup [.int (i : Nat), x])) { s with heap := h'', toks := tk + 1 } :=
      I.turnedNew (ch := [e, it]) (fun b ob hb q => (sb.2 b (fun z => hb (by simp [z]))).trans (hk b ob (fun z => hb (by simp [z])) (fun z => hb (by simp [z])) q)) hf (Nat.le_refl _) new
    refine ⟨.ref s.heap.objs.size, _, I1, rfl, ⟨_, x, rfl, I.hok.fresh (Nat.le_refl _), rfl, fun ys hy => by rw [I.tuple_inj hy hq]; exact hx⟩, ⟨⟨u', ?_⟩, hst.1.at fun o q => (sb.2 it (Ne.symm hne)).trans q, hne, n2, n3⟩, fun b hb => ?_⟩
    · have e1 : ((i + 1 : Nat) : Int) = (i : Int) + 1 := by omega
      rw [e1]; exact he'
    · have hb' : b < s.heap.objs.size := by
        have eb : b = e ∨ b = it := by simpa using hb
        rcases eb with z | z
        · rw [z]; exact hel
        · rw [z]; exact hil
      rw [upd_ne (Nat.ne_of_lt hb')]
      exact (hf b hb).1
  done := by
    intro X hP hw hK hc i pins s σ H E I hf st hg
    subst hP hw hK
    obtain ⟨⟨old, he⟩, hit, hne, n2, n3⟩ := st
    obtain ⟨xs, hq, hx⟩ := hg
    obtain ⟨its, rv, p, hz⟩ := I.tuple hq
    obtain ⟨f0, f1, f2, f3, f4, f5⟩ := hf it (by simp)
    have hl := rv.length
    refine endT (I.ok.hd hc) he hit p (by simp; omega) fun h' eb => ⟨rfl, I.turned (t' := s.toks) (fun b o hb q => eb b o hb q) f0 f1 f3 f4 f5⟩
  self := fun A i s Q E st h => let ⟨⟨_, he⟩, _⟩ := st; wpAny_pyIter_enum he h
def iEnumT (K : Fr) (ta : TA) : TI := fun σ H R => ta σ H fun vs H1 => ∃ a xs, vs = [.ref a] ∧ SqT K H1 a xs ∧ R (IteT K a) H1
theorem pi_enumT {X : Cx} {K : Fr} {e : Expr} {ta : TA} {p pos tpos : Pos} {elts : List Expr} {kk : Nat} (hK : X.K = K) (hg : Gl X "enumerate") (hm : X.mg "enumerate" = none) (ha : PA X [e] ta) (hs : starEach [e] X.env = [(false, eval e X.env)] := by rfl) :
    PI X (.Tuple elts kk tpos) (.Call (.Name "enumerate" p) [e] [] pos) (iEnumT K ta) := by
  subst hK
  refine ⟨fun pins s σ H R I h => ?_⟩
  refine Call_ (ld_blt I hg hm boot_enumerate (PyProof.Rows.callWith_type1 (thn (ha.run pos pins s σ H _ I h) fun us s1 ⟨vs, H1, I1, r1, q1⟩ => ?_) hs rfl))
  obtain ⟨a, xs, ex, hq, q⟩ := q1
  subst ex
  cases r1 with
  | cons r rr =>
    cases rr
    cases r
    obtain ⟨its, rv, p', hz⟩ := I1.tuple hq
    have la : a < s1.heap.objs.size := by
      obtain ⟨o, ho, _⟩ := p'
      exact Heap.lt_size ho
    refine callT p' fun h' he hit hk => wpAny_pyIter_enum he ?_
    have I2 : Inv X pins σ H1 { s1 with heap := h' } := I1.kept (t' := s1.toks) hk
    refine ⟨s1.heap.objs.size + 1, [s1.heap.objs.size + 1, s1.heap.objs.size], _, _, H1, rfl, I2, turnT a (s1.heap.objs.size + 1) s1.heap.objs.size, ⟨⟨.none, he⟩, hit, Nat.succ_ne_self _, Nat.ne_of_lt la, Nat.ne_of_lt (Nat.lt_succ_of_lt la)⟩, fun b hb => ?_, q⟩
    have eb : b = s1.heap.objs.size + 1 ∨ b = s1.heap.objs.size := by simpa using hb
    have hle : s1.heap.objs.size ≤ b := by
      rcases eb with z | z
      · rw [z]; exact Nat.le_add_right _ _
      · rw [z]; exact Nat.le_refl _
    exact I1.fpOk hle (I1.hok.fresh hle)
theorem walk_enumT {K : Fr} {a : Addr} {xs : List V} : Walk (IteT K a) xs.length (fun H => SqT K H a xs) (YPair (fun i => some (.int (i : Nat))) (fun i => xs[i]?)) := by
  refine ⟨fun i _ hi q => ⟨xs, xs[i], q, by simp [hi]⟩, fun _ q => ⟨xs, q, Nat.le_refl _⟩, fun i H v H' _ q y => ?_⟩
  obtain ⟨T, x, h1, h2, h3, h4⟩ := y
  exact ⟨T, .int (i : Nat), x, h1, h2, h3, rfl, h4 xs q⟩
end K20

set_option Elab.async false
set_option linter.all false
set_option maxRecDepth 100000
set_option maxHeartbeats 4000000
namespace K20
open PySem PySem.Spec PyProof.Rows L2
local macro_rules | `(tactic| walk_at "q1") => `(tactic| first
  | with_reducible refine r_seq ?_ | with_reducible refine r_asg ?_ | with_reducible refine r_name ?_ | with_reducible refine r_ret ?_ | with_reducible refine r_ifS ?_ | with_reducible refine r_next ?_ | with_reducible refine r_drop ?_
  | ((with_reducible show tVar _ _ _ _); refine ⟨_, rfl, ?_⟩) | with_reducible refine r_c ?_ | with_reducible refine r_op ?_ | with_reducible refine r_un ?_ | with_reducible refine r_I0 ?_ | with_reducible refine r_U ?_
  | with_reducible refine r_eqI ?_ | with_reducible refine r_neI ?_ | with_reducible refine r_neB ?_ | with_reducible refine r_cb ?_ | with_reducible refine r_cons ?_ | with_reducible refine r_nil ?_ | with_reducible refine r_test ?_ | with_reducible refine r_tB ?_
  | with_reducible refine r_bl ?_ | with_reducible refine r_not ?_ | with_reducible refine r_notV ?_ | with_reducible refine r_and ?_ | with_reducible refine r_or ?_ | with_reducible refine r_andV ?_ | with_reducible refine r_orV ?_ | with_reducible refine r_if ?_
  | with_reducible refine r_T ?_ | with_reducible refine r_F ?_ | with_reducible refine r_NT ?_ | with_reducible refine r_NF ?_ | with_reducible refine r_call ?_ | with_reducible refine r_meth ?_ | with_reducible refine r_int1 ?_ | with_reducible refine r_fld ?_
  | with_reducible refine r_tup ?_ | with_reducible refine r_lst ?_ | with_reducible refine r_par ?_ | with_reducible refine r_par3 ?_ | with_reducible refine r_two ?_ | with_reducible refine r_three ?_ | with_reducible refine r_abs ?_ | with_reducible refine r_max ?_
  | with_reducible refine r_cut ?_ | with_reducible refine r_lc ?_ | with_reducible refine r_lc2 ?_ | with_reducible refine r_mkB ?_ | with_reducible refine r_for ?_ | with_reducible refine r_iList ?_ | with_reducible refine r_iTup ?_ | with_reducible refine r_revL ?_ | with_reducible refine r_star ?_ | with_reducible refine r_bits ?_ | with_reducible refine r_iRng ?_ | with_reducible refine r_iEnum ?_ | with_reducible refine r_iZip ?_ | with_reducible refine r_sub ?_ | with_reducible refine r_sfld ?_ | with_reducible refine r_bm ?_
  | with_reducible refine r_methK ?_ | with_reducible refine r_methS ?_ | with_reducible refine r_make ?_ | with_reducible refine r_mod ?_ | with_reducible refine r_gtup ?_ | with_reducible refine r_gcons ?_ | with_reducible refine r_gnil ?_ | with_reducible refine r_slc ?_ | with_reducible refine r_part ?_ | with_reducible refine r_noPart ?_)
local macro_rules | `(tactic| walk_at "nw") => `(tactic| (intro p hp; generalize hu : upd _ p _ = H1; obtain ⟨s1, hp1⟩ := nwx hp hu; clear hu))
local macro_rules | `(tactic| walk_at "q") => `(tactic| repeat walk_at "q1")
section
variable {P : Program} {w : World} {K : Fr} {mg : Str → Option Value} {base : Heap}
/-! ### sequences of two kinds; a comprehension of two fors -/
def sq : Bool → List V → HO
  | true, xs => .lst xs
  | false, xs => .tup xs
theorem sq_or {kd : Bool} {xs : List V} {a : Addr} {H : Hp} (h : H a = some (sq kd xs)) : SqL K H a xs ∨ SqT K H a xs := by
  cases kd with
  | true => exact .inl (SqL.of h)
  | false => exact .inr (SqT.of h)
theorem pi_or {X : Cx} {tg e : Expr} {w1 w2 w3 : TI} (h1 : PI X tg e w1) (h2 : PI X tg e w2) (h : ∀ σ H R, w3 σ H R → w1 σ H R ∨ w2 σ H R) : PI X tg e w3 :=
  ⟨fun pins s σ H R I q => (h σ H R q).elim (h1.run pins s σ H R I) (h2.run pins s σ H R I)⟩
def iEnA (i : Nat) : TI := fun σ H R => ∃ a xs kd, σ[i]? = some (some (.ref a)) ∧ H a = some (sq kd xs) ∧ ∀ J, Walk J xs.length (fun H' => H' a = some (sq kd xs)) (YPair (fun j => some (.int (j : Nat))) (fun j => xs[j]?)) → R J H
def iSqA (i : Nat) : TI := fun σ H R => ∃ a xs kd, σ[i]? = some (some (.ref a)) ∧ H a = some (sq kd xs) ∧ ∀ J, Walk J xs.length (fun H' => H' a = some (sq kd xs)) (YAt xs) → R J H
theorem pi_enA {X : Cx} {i : Nat} {e : Expr} {p pos tpos : Pos} {elts : List Expr} {kk : Nat} (hg : Gl X "enumerate") (hm : X.mg "enumerate" = none) (ha : PE X e (tVar i)) (hs : starEach [e] X.env = [(false, eval e X.env)] := by rfl) :
    PI X (.Tuple elts kk tpos) (.Call (.Name "enumerate" p) [e] [] pos) (iEnA i) := by
  refine pi_or (pi_enum hg hm (pa_cons ha pa_nil hs) hs) (pi_enumT rfl hg hm (pa_cons ha pa_nil hs) hs) fun σ H R h => ?_
  obtain ⟨a, xs, kd, h1, h2, h3⟩ := h
  cases kd with
  | true => exact .inl ⟨_, h1, a, xs, rfl, SqL.of h2, h3 _ (walk_enum.mono (fun H' q => SqL.of q) fun _ _ _ _ _ _ y => y)⟩
  | false => exact .inr ⟨_, h1, a, xs, rfl, SqT.of h2, h3 _ (walk_enumT.mono (fun H' q => SqT.of q) fun _ _ _ _ _ _ y => y)⟩
theorem pi_sqA {X : Cx} {i : Nat} {tg e : Expr} (he : PE X e (tVar i)) : PI X tg e (iSqA i) := by
  refine pi_or (pi_list he) (pi_tup he) fun σ H R h => ?_
  obtain ⟨a, xs, kd, h1, h2, h3⟩ := h
  cases kd with
  | true => exact .inl ⟨_, h1, a, rfl, ⟨_, SqL.of h2⟩, h3 _ (walk_list.mono (fun H' q => SqL.of q) fun _ _ _ _ _ _ y => y)⟩
  | false => exact .inr ⟨_, h1, a, rfl, ⟨_, SqT.of h2⟩, h3 _ (walk_tup.mono (fun H' q => SqT.of q) fun _ _ _ _ _ _ y => y)⟩
theorem r_isSq {kd : Bool} {a : Addr} {xs : List V} {p : Addr} {H : Hp} {Q : VK} (hp : H p = some (.tup [.ty "list", .ty "tuple"])) (e : H a = some (sq kd xs)) (h : Q (.bl true) H) : rIsiT K [.ref a, .ref p] H Q := by
  cases kd with
  | true => exact r_isL hp e h
  | false => exact r_isU hp e h
theorem TyX.same {H H' : Hp} {x : V} {t : Value} (h : TyX K H x t) (s : Same H H') : TyX K H' x t := by
  cases h with
  | base h =>
    cases h with
    | non => exact .base .non
    | bl x => exact .base (.bl x)
    | int i => exact .base (.int i)
    | str x => exact .base (.str x)
    | flt x => exact .base (.flt x)
    | lst e => exact .base (.lst (s _ _ e))
    | frz e => exact .base (.frz (s _ _ e))
    | tup e => exact .base (.tup (s _ _ e))
    | dK e => exact .base (.dK (s _ _ e))
    | dT e => exact .base (.dT (s _ _ e))
    | ins e a b c d f => exact .base (.ins (s _ _ e) a b c d f)
  | byt b => exact .byt b
  | set e => exact .set (s _ _ e)
  | kList e c => exact .kList e c
  | kTuple e c => exact .kTuple e c
  | kDict e c => exact .kDict e c
  | fTuple e => exact .fTuple (s _ _ e)
  | fDict e => exact .fDict (s _ _ e)
theorem NoInt.same {H H' : Hp} {x : V} (h : NoInt K H x) (s : Same H H') : NoInt K H' x := h.elim .inl fun ⟨t, a, b⟩ => .inr ⟨t, TyX.same a s, b⟩
/-- the inner for of a comprehension -/
structure In2 (Dl : Addr) (g1 : TG) (te : TE) (vs1 : List Nat) (Inext : List V → Hp → Prop) (σ2 : L2.St) (J1 : It) (H4 : Hp) (acc : List V) : Prop where
  ex : ∃ (n1 : Nat) (G1 : Hp → Prop) (Y1 : Nat → Hp → V → Hp → Prop) (I1 : Nat → List V → Hp → Prop), Walk J1 n1 G1 Y1 ∧ H4 Dl = some (.lst acc) ∧ I1 0 acc H4 ∧ (∀ j a H' o, I1 j a H' → I1 j a (upd H' Dl o)) ∧ (∀ j a H', I1 j a H' → G1 H') ∧
    (∀ a H', H' Dl = some (.lst a) → I1 n1 a H' → Inext a H') ∧
    ∀ j a y H5 H6, j < n1 → I1 j a H5 → H5 Dl = some (.lst a) → Y1 j H5 y H6 → ∀ Kc : VK, (∀ z H8, H8 Dl = some (.lst a) → a.length < 100000 → I1 (j + 1) (a ++ [z]) H8 → Kc z H8) → g1 y (wipe σ2 vs1) H6 fun σ3 H7 => wipe σ3 vs1 = wipe σ2 vs1 ∧ te σ3 H7 Kc
theorem lc2_inv {J : It} {n : Nat} {G : Hp → Prop} {Y : Nat → Hp → V → Hp → Prop} (wk : Walk J n G Y) {g g1 : TG} {wi1 : TI} {te : TE} {σ : L2.St} {vs vs1 : List Nat} {H1 : Hp} {Dl : Addr} {Qd : Hp → Prop} (hD : H1 Dl = none) (I : Nat → List V → Hp → Prop) (h0 : I 0 [] H1)
    (st : ∀ i acc H' o, I i acc H' → I i acc (upd H' Dl o)) (hG : ∀ i acc H', I i acc H' → G H')
    (hs : ∀ i acc x H2 H', i < n → I i acc H2 → H2 Dl = some (.lst acc) → Y i H2 x H' → ∀ R : L2.St → It → Hp → Prop, (∀ σ2 J1 H4, In2 Dl g1 te vs1 (I (i + 1)) σ2 J1 H4 acc → R σ2 J1 H4) → g x (wipe σ vs) H' fun σ2 H3 => wipe σ2 vs = wipe σ vs ∧ wi1 σ2 H3 (R σ2))
    (hd : ∀ acc H', I n acc H' → H' Dl = some (.lst acc) → Qd H') :
    ∃ W : Nat → Nat → Hp → Prop, (∃ m, W 0 m (upd H1 Dl (.lst []))) ∧ ∀ i m H, W i m H →
      (J.stop i H ∧ Qd H) ∨ (J.go i H ∧ ∃ Nx : Hp → Prop, (∀ H', Nx H' → ∃ m', m' < m ∧ W (i + 1) m' H') ∧ ∀ x H', J.yld i H x H' → g x (wipe σ vs) H' fun σ2 H2 => wipe σ2 vs = wipe σ vs ∧ tYes σ2 H2 fun b H3 =>
        if b = true then wi1 σ2 H3 fun J1 H4 => ∃ W1 : Nat → Nat → Hp → Prop, (∃ m, W1 0 m H4) ∧ ∀ j k H, W1 j k H →
          (J1.stop j H ∧ Nx H) ∨ (J1.go j H ∧ ∃ Nx1 : Hp → Prop, (∀ H', Nx1 H' → ∃ k', k' < k ∧ W1 (j + 1) k' H') ∧ ∀ x H', J1.yld j H x H' → g1 x (wipe σ2 vs1) H' fun σ3 H5 => wipe σ3 vs1 = wipe σ2 vs1 ∧ tYes σ3 H5 fun b H6 =>
            if b = true then te σ3 H6 fun y H7 => ∃ acc, H7 Dl = some (.lst acc) ∧ acc.length < sizeLine ∧ Nx1 (upd H7 Dl (.lst (acc ++ [y]))) else Nx1 H6)
        else Nx H3) := by
  refine ⟨fun i m H => m = n - i ∧ i ≤ n ∧ ∃ acc, H Dl = some (.lst acc) ∧ I i acc H, ⟨n, by simp, Nat.zero_le _, [], upd_same, st _ _ _ _ h0⟩, ?_⟩
  rintro i m H ⟨rfl, hi, acc, hDl, hI⟩
  have q := hG i acc H hI
  by_cases hlt : i < n
  · refine .inr ⟨wk.goes i H hlt q, fun H' => ∃ acc', H' Dl = some (.lst acc') ∧ I (i + 1) acc' H', fun H' ⟨a', e', p'⟩ => ⟨n - (i + 1), by omega, rfl, hlt, a', e', p'⟩, fun x H' y => ?_⟩
    refine hs i acc x H H' hlt hI hDl (wk.yields i H x H' hlt q y) (fun σ2 J1 H4 => _) fun σ2 J1 H4 z => ?_
    obtain ⟨n1, G1, Y1, I1, wk1, hD4, h40, st1, hG1, done, step⟩ := z.ex
    refine ⟨fun j k H => k = n1 - j ∧ j ≤ n1 ∧ ∃ a, H Dl = some (.lst a) ∧ I1 j a H, ⟨n1, by simp, Nat.zero_le _, acc, hD4, h40⟩, ?_⟩
    rintro j k H5 ⟨rfl, hj, a, hDa, hI1⟩
    have q1 := hG1 j a H5 hI1
    by_cases hlt1 : j < n1
    · refine .inr ⟨wk1.goes j H5 hlt1 q1, fun H' => ∃ a', H' Dl = some (.lst a') ∧ I1 (j + 1) a' H', fun H' ⟨a', e', p'⟩ => ⟨n1 - (j + 1), by omega, rfl, hlt1, a', e', p'⟩, fun y H6 hy => ?_⟩
      exact step j a y H5 H6 hlt1 hI1 hDa (wk1.yields j H5 y H6 hlt1 q1 hy) _ fun z H8 h8 hl8 p8 => ⟨a, h8, Nat.lt_of_lt_of_le hl8 (by decide), a ++ [z], upd_same, st1 _ _ _ _ p8⟩
    · have e : j = n1 := by omega
      subst e
      exact .inl ⟨wk1.stops H5 q1, a, hDa, done a H5 hDa hI1⟩
  · have e : i = n := by omega
    subst e
    exact .inl ⟨wk.stops H q, hd acc H hI hDl⟩
theorem r_lc2 {wi wi1 : TI} {g g1 : TG} {te : TE} {tt tt1 : TT} {vs vs1 : List Nat} {σ : L2.St} {H : Hp} {Q : VK} (h : wi σ H fun J H1 => ∀ D, H1 D = none → ∃ W : Nat → Nat → Hp → Prop, (∃ m, W 0 m (upd H1 D (.lst []))) ∧ ∀ i m H, W i m H →
      (J.stop i H ∧ Q (.ref D) H) ∨ (J.go i H ∧ ∃ Nx : Hp → Prop, (∀ H', Nx H' → ∃ m', m' < m ∧ W (i + 1) m' H') ∧ ∀ x H', J.yld i H x H' → g x (wipe σ vs) H' fun σ2 H2 => wipe σ2 vs = wipe σ vs ∧ tt σ2 H2 fun b H3 =>
        if b = true then wi1 σ2 H3 fun J1 H4 => ∃ W1 : Nat → Nat → Hp → Prop, (∃ m, W1 0 m H4) ∧ ∀ j k H, W1 j k H →
          (J1.stop j H ∧ Nx H) ∨ (J1.go j H ∧ ∃ Nx1 : Hp → Prop, (∀ H', Nx1 H' → ∃ k', k' < k ∧ W1 (j + 1) k' H') ∧ ∀ x H', J1.yld j H x H' → g1 x (wipe σ2 vs1) H' fun σ3 H5 => wipe σ3 vs1 = wipe σ2 vs1 ∧ tt1 σ3 H5 fun b H6 =>
            if b = true then te σ3 H6 fun y H7 => ∃ acc, H7 D = some (.lst acc) ∧ acc.length < sizeLine ∧ Nx1 (upd H7 D (.lst (acc ++ [y]))) else Nx1 H6)
        else Nx H3)) : tLc2 wi g tt wi1 g1 tt1 te vs vs1 σ H Q := h
theorem r_cut {t u : TS} {D : Ends} {σ : L2.St} {H : Hp} (h : ∃ Mid : L2.St → Hp → Prop, t { D with nx := Mid } σ H ∧ ∀ σ' H', Mid σ' H' → u D σ' H') : C8.tCut t u D σ H := h
theorem r_mkB {C : Addr} {cn f : Str} {ta : TA} {σ : L2.St} {H : Hp} {Q : XK} (h : ta σ H fun vs H1 => ∃ v, vs = [v] ∧ ∀ d, H1 d = none → Q (.ref C) (some d) (upd H1 d (.xd [(f, v), ("code", .str cn)]))) : tMkB C cn f ta σ H Q := h
end
end K20

set_option Elab.async false
set_option linter.all false
set_option maxRecDepth 100000
set_option maxHeartbeats 4000000
namespace K20
open PySem PySem.Spec PyProof.Rows L2
local macro_rules | `(tactic| walk_at "q1") => `(tactic| first
  | with_reducible refine r_seq ?_ | with_reducible refine r_asg ?_ | with_reducible refine r_name ?_ | with_reducible refine r_ret ?_ | with_reducible refine r_ifS ?_ | with_reducible refine r_next ?_ | with_reducible refine r_drop ?_
  | ((with_reducible show tVar _ _ _ _); refine ⟨_, rfl, ?_⟩) | with_reducible refine r_c ?_ | with_reducible refine r_op ?_ | with_reducible refine r_un ?_ | with_reducible refine r_I0 ?_ | with_reducible refine r_U ?_
  | with_reducible refine r_eqI ?_ | with_reducible refine r_neI ?_ | with_reducible refine r_neB ?_ | with_reducible refine r_cb ?_ | with_reducible refine r_cons ?_ | with_reducible refine r_nil ?_ | with_reducible refine r_test ?_ | with_reducible refine r_tB ?_
  | with_reducible refine r_bl ?_ | with_reducible refine r_not ?_ | with_reducible refine r_notV ?_ | with_reducible refine r_and ?_ | with_reducible refine r_or ?_ | with_reducible refine r_andV ?_ | with_reducible refine r_orV ?_ | with_reducible refine r_if ?_
  | with_reducible refine r_T ?_ | with_reducible refine r_F ?_ | with_reducible refine r_NT ?_ | with_reducible refine r_NF ?_ | with_reducible refine r_call ?_ | with_reducible refine r_meth ?_ | with_reducible refine r_int1 ?_ | with_reducible refine r_fld ?_
  | with_reducible refine r_tup ?_ | with_reducible refine r_lst ?_ | with_reducible refine r_par ?_ | with_reducible refine r_par3 ?_ | with_reducible refine r_two ?_ | with_reducible refine r_three ?_ | with_reducible refine r_abs ?_ | with_reducible refine r_max ?_
  | with_reducible refine r_cut ?_ | with_reducible refine r_lc ?_ | with_reducible refine r_lc2 ?_ | with_reducible refine r_mkB ?_ | with_reducible refine r_for ?_ | with_reducible refine r_iList ?_ | with_reducible refine r_iTup ?_ | with_reducible refine r_revL ?_ | with_reducible refine r_star ?_ | with_reducible refine r_bits ?_ | with_reducible refine r_iRng ?_ | with_reducible refine r_iEnum ?_ | with_reducible refine r_iZip ?_ | with_reducible refine r_sub ?_ | with_reducible refine r_sfld ?_ | with_reducible refine r_bm ?_
  | with_reducible refine r_methK ?_ | with_reducible refine r_methS ?_ | with_reducible refine r_make ?_ | with_reducible refine r_mod ?_ | with_reducible refine r_gtup ?_ | with_reducible refine r_gcons ?_ | with_reducible refine r_gnil ?_ | with_reducible refine r_slc ?_ | with_reducible refine r_part ?_ | with_reducible refine r_noPart ?_)
local macro_rules | `(tactic| walk_at "nw") => `(tactic| (intro p hp; generalize hu : upd _ p _ = H1; obtain ⟨s1, hp1⟩ := nwx hp hu; clear hu))
local macro_rules | `(tactic| walk_at "q") => `(tactic| repeat walk_at "q1")
section
variable {P : Program} {w : World} {K : Fr} {mg : Str → Option Value} {base : Heap}
/-! ### led -/
def facs (z : Sz) (ns : List Int) : List Int := (ns.map fun x => digs z.B (x % z.q) z.l).flatten
def ledTot (z : Sz) (cs : List Cov) (ns : List Int) : Int := dotZ (facs z ns) (lanes z cs)
def ledRow (z : Sz) (cs : List Cov) (ns : List Int) : List Int := unp (2 ^ z.lane) (2 ^ (z.lane - 1)) (ledTot z cs ns) (z.n + 1)
def ledOf (z : Sz) (cs : List Cov) (ns : List Int) (y : Int) : Cov := ⟨((ledRow z cs ns).take z.n).map (fun x => (-x) % z.q), (y - (ledRow z cs ns).getD z.n 0) % z.q⟩
/-- numbers that led refuses, and where -/
def BadNums (K : Fr) (H : Hp) (wd : Nat) (nv : V) (at_ : Int) : Prop :=
  (at_ = -1 ∧ ∃ t, TyX K H nv (.type t) ∧ kitB t "list" = some false ∧ kitB t "tuple" = some false) ∨
  (at_ = -1 ∧ ∃ a xs kd, nv = .ref a ∧ H a = some (sq kd xs) ∧ xs.length ≠ wd) ∨
  ∃ a xs kd i x, nv = .ref a ∧ H a = some (sq kd xs) ∧ xs.length = wd ∧ at_ = (i : Nat) ∧ xs[i]? = some x ∧ NoInt K H x ∧ ∀ j, j < i → ∃ n : Int, xs[j]? = some (.int n)
structure LedIn (a so : Addr) (z : Sz) (wd : Nat) (cs : List Cov) (H : Hp) : Prop where
  ok : z.Ok
  sw : SwAt so z cs wd a H
  cok : ∀ c ∈ cs, c.Ok z
  len : cs.length = wd * z.l
  w32 : wd ≤ 32
def spLed (K : Fr) : Sp := fun vs H Q E => ∃ (a so : Addr) (z : Sz) (wd : Nat) (cs : List Cov) (nv bv : V), vs = [.ref a, nv, bv] ∧ LedIn a so z wd cs H ∧
  ((∃ (na : Addr) (ns : List Int) (kd : Bool) (y : Int), nv = .ref na ∧ bv = .int y ∧ H na = some (sq kd (ns.map V.int)) ∧ ns.length = wd ∧ ∀ c H', H c = none → Same H H' → CvAt so (ledOf z cs ns y) c H' → Q (.ref c) H') ∨
   (∃ at_, BadNums K H wd nv at_ ∧ ∀ d H', H' d = some (.xd [("at", .int at_), ("code", .str "BadList")]) → Same H H' → E (.ref 116) (some d) H') ∨
   (∃ (na : Addr) (ns : List Int) (kd : Bool), nv = .ref na ∧ H na = some (sq kd (ns.map V.int)) ∧ ns.length = wd ∧ NoInt K H bv ∧ ∀ d H', H' d = some (.xd [("value", bv), ("code", .str "InvalidNumber")]) → Same H H' → E (.ref 53) (some d) H'))
theorem facs_len (z : Sz) : ∀ ns : List Int, (facs z ns).length = ns.length * z.l
  | [] => by simp [facs]
  | n :: ns => by
    have ih := facs_len z ns
    unfold facs at ih ⊢
    rw [List.map_cons, List.flatten_cons, List.length_append, ih, digs_length, List.length_cons, Nat.succ_mul]
    omega
theorem facs_bd {z : Sz} (o : z.Ok) {ns : List Int} : ∀ d ∈ facs z ns, -z.h ≤ d ∧ d < z.h := by
  intro d hd
  obtain ⟨l, hl, hdl⟩ := List.mem_flatten.mp hd
  obtain ⟨x, _, rfl⟩ := List.mem_map.mp hl
  exact digs_bound (Sz.B2 o) z.hpos z.l d hdl
theorem facs_snoc (z : Sz) (ns : List Int) (i : Nat) (x : Int) (h : ns[i]? = some x) : facs z (ns.take (i + 1)) = facs z (ns.take i) ++ digs z.B (x % z.q) z.l := by
  unfold facs
  rw [List.take_add_one, h, List.map_append, List.flatten_append]
  simp
theorem cut_last (xs : List V) (v : V) : cutV (xs ++ [v]) none (some (-1)) = xs := by
  unfold cutV HT.sIx
  simp
  rw [show (-1 + ((xs.length : Int) + 1)).toNat = xs.length by omega]
  simp
theorem Same.back {H H' : Hp} {a : Addr} (s : Same H H') (h : H' a = none) : H a = none := by
  cases q : H a with
  | none => rfl
  | some u => rw [s _ _ q] at h; cases h
theorem ok_led (T : Txt K mg) (hP : PTop P) (c_is_whole : C8.Cal P w K mg base 1 "is_whole" (spWh K) []) (c_digits : C8.Cal P w K mg base 3 "digits" spDigits []) (c_unpacked : C8.Cal P w K mg base 1 "unpacked" spUnp []) (c_Cover : C8.Mak P w K mg base 3 "Cover" 377 spCover []) :
    ∃ fd kV doc pm an ct, FnOk P w K mg base (L2N.CX P w) 5 604 fd ["self", "numbers", "body"] (spLed K) ∧ fd = PySem.W.fnOf "led" "Switch.led" (C8.fnArgs (meth 43 2)) (C8.fnBody (meth 43 2)) (C8.fnScope (meth 43 2)) .none kV doc pm an (.ref 603) ct := by
  have S : FnScope ["self", "numbers", "body", "at", "number", "factors", "total", "row", "digit", "factor", "cover"] ["self", "numbers", "body"] (C8.fnScope (meth 43 2)) := C8.fnScope_by (by decide +kernel)
  obtain ⟨oc, od, kV, doc, pm, an, ct, osl, h1, h2⟩ := T.f_Switch_led.ex
  refine ⟨_, kV, doc, pm, an, ct, fn_of h1 h2 S (fun vs H Q E h => ?_) (fun A outer s H vs Q E hr h => ?_), rfl⟩
  · obtain ⟨a, so, z, wd, cs, nv, bv, rfl, _⟩ := h
    rfl
  · obtain ⟨a, so, z, wd, cs, nv, bv, rfl, L, h⟩ := h
    refine ⟨_, (pss_cons (ps_if (PW.pt (pw_or (pt_not (pt_val (pe_callB (call_isiTK (K := K) rfl) rfl T.z_isinstance (by decide +kernel) (pa_cons (pv 1) (pa_cons (pe_tup (pa_cons (pe_ty "list" T.z_list) (pa_cons (pe_ty "tuple" T.z_tuple) pa_nil))) pa_nil))))) (pw_or1 (pt_cmpR op_ne (pe_callB call_len_seq rfl T.z_len (by decide +kernel) (pa_cons (pv 1) pa_nil)) (pe_fldK (K := K) rfl (pv 0) rfl) (nomark _))))) (pss_one (L2N.ps_raise rfl (L2N.takes_of rfl rfl rfl rfl) (pmk_xb (k := 0) T.x_BadList (xd_BadList T) (by decide) (by decide) (by decide) (by decide) T.g_BadList T.z_super hP (hr.mono (by decide)) (pa_cons (pe_un un_neg pe_int) pa_nil)))) pss_nil)
      (pss_cons (ps_for (passes_of rfl) rfl (pi_enA rfl T.z_enumerate (pv 1)) (pg_tupK (K := K) (n := 2) rfl rfl (pgs_cons (pg_name (i := 3) S.nd rfl (Or.inl rfl)) (pgs_cons (pg_name (i := 4) S.nd rfl (Or.inl rfl)) pgs_nil))) (pss_one (ps_if (pt_not (pt_val (C8.pe_c c_is_whole hr (by decide) rfl (pa_cons (pv 4) pa_nil)))) (pss_one (L2N.ps_raise rfl (L2N.takes_of rfl rfl rfl rfl) (pmk_xb (k := 0) T.x_BadList (xd_BadList T) (by decide) (by decide) (by decide) (by decide) T.g_BadList T.z_super hP (hr.mono (by decide)) (pa_cons (pv 3) pa_nil)))) pss_nil)))
      (pss_cons (ps_if (pt_not (pt_val (C8.pe_c c_is_whole hr (by decide) rfl (pa_cons (pv 2) pa_nil)))) (pss_one (L2N.ps_raise rfl (L2N.takes_of rfl rfl rfl rfl) (pmk_xb (k := 0) T.x_InvalidNumber (xd_InvalidNumber T) (by decide) (by decide) (by decide) (by decide) T.g_InvalidNumber T.z_super hP (hr.mono (by decide)) (pa_cons (pv 2) pa_nil)))) pss_nil)
      (pss_cons (ps_setLc2 (i := 5) (own := [("number", 4), ("digit", 8)]) (vs1 := [8]) rfl S.nd rfl rfl (sw_true rfl rfl rfl (by decide +kernel)) (pi_sqA (pv 1)) (blkOk_by (N := ["self", "numbers", "body", "at", "number", "factors", "total", "row", "digit", "factor", "cover"]) (sc := C8.fnScope (meth 43 2)) (by decide +kernel)) (by decide) (fun _ _ _ _ _ => (pg_name (i := 4) S.nd rfl (Or.inl rfl))) (fun _ _ _ _ _ => pts_nil) (fun _ _ _ _ _ => (pi_listK (K := K) rfl (C8.pe_c c_digits hr (by decide) rfl (pa_cons (pv 4) (pa_cons (pe_fldK (K := K) rfl (pv 0) rfl) pa_nil))))) (fun _ _ _ _ _ => (pg_name (i := 8) S.nd rfl (Or.inl rfl))) (fun _ _ _ _ _ => pts_nil) (fun _ _ _ _ _ => (pv 8)))
      (pss_cons (ps_set (i := 6) S.nd rfl (Or.inl rfl) (pe_callB (cr_sum rfl) rfl T.z_sum (by decide +kernel) (pa_cons (pe_lc (own := [("factor", 9), ("cover", 10)]) rfl S.nd (pi_zip rfl T.z_zip (pa_cons (pv 5) (pa_cons (pe_fldK (K := K) rfl (pv 0) rfl) pa_nil))) (blkOk_by (N := ["self", "numbers", "body", "at", "number", "factors", "total", "row", "digit", "factor", "cover"]) (sc := C8.fnScope (meth 43 2)) (by decide +kernel)) (fun _ _ _ _ _ => (pg_tupK (K := K) (n := 2) rfl rfl (pgs_cons (pg_name (i := 9) S.nd rfl (Or.inl rfl)) (pgs_cons (pg_name (i := 10) S.nd rfl (Or.inl rfl)) pgs_nil)))) (fun _ _ _ _ _ => pts_nil) (fun _ _ _ _ _ => (pe_op op_mul (pv 9) (pv 10)))) pa_nil)))
      (pss_cons (ps_set (i := 7) S.nd rfl (Or.inl rfl) (C8.pe_c c_unpacked hr (by decide) rfl (pa_cons (pv 6) (pa_cons (pe_fldK (K := K) rfl (pv 0) rfl) (pa_cons (pe_op op_add (pe_fldK (K := K) rfl (pe_fldK (K := K) rfl (pv 0) rfl) rfl) pe_int) pa_nil)))))
      (pss_one (ps_ret (C8.pe_mk c_Cover hr (by decide) rfl (pa_cons (pe_fldK (K := K) rfl (pv 0) rfl) (pa_cons (pe_lc (own := [("number", 4)]) rfl S.nd (pi_listK (K := K) rfl (pe_slice sl_list (pv 7) po_none (po_some (pe_un un_neg pe_int)))) (blkOk_by (N := ["self", "numbers", "body", "at", "number", "factors", "total", "row", "digit", "factor", "cover"]) (sc := C8.fnScope (meth 43 2)) (by decide +kernel)) (fun _ _ _ _ _ => (pg_name (i := 4) S.nd rfl (Or.inl rfl))) (fun _ _ _ _ _ => pts_nil) (fun _ _ _ _ _ => (pe_un un_neg (pv 4)))) (pa_cons (pe_op op_sub (pv 2) (pe_ix (ix_listK (K := K) rfl) (pv 7) (pe_un un_neg pe_int) (fun _ _ => rfl))) pa_nil)))))))))))), ?_⟩
    obtain ⟨dx, cl, pl, ha, hcl, hpl⟩ := L.sw.ex
    obtain ⟨ds, hs⟩ := id L.sw.sz
    have o := L.ok
    have w32 := L.w32
    walk_at "q"
    refine ⟨by decide, ?_⟩
    walk_at "nw"
    rename_i p0 np0 H1 s1 hp0
    walk_at "q"
    have hsame : ∀ {D : Addr} {Hx : Hp} {o : HO}, H D = none → Same H Hx → Same H (upd Hx D o) := fun n q b u e => by rw [upd_ne (ne_of_none e n)]; exact q b u e
    rcases h with ⟨na, ns, kd, y, rfl, rfl, hna, hl, h⟩ | ⟨at_, bad, h⟩ | ⟨na, ns, kd, rfl, hna, hl, hb, h⟩
    · -- all is well
      refine r_isSq hp0 (s1 _ _ hna) ?_
      walk_at "q"
      refine ⟨na, _, rfl, sq_or (s1 _ _ hna), ?_⟩
      walk_at "q"
      refine ⟨_, _, _, _, _, rfl, (s1 _ _ ha), T.c_Switch, T.n_Switch_width, rfl, ?_⟩
      walk_at "q"
      refine r_negN (by rw [List.length_map]; omega) ?_
      walk_at "q"
      refine ⟨na, _, kd, rfl, s1 _ _ hna, fun J wk => ?_⟩
      refine for_it wk (fun i σ H' => ∃ v3 v4, σ = [some (.ref a), some (.ref na), some (.int y), v3, v4, none, none, none, none, none, none] ∧ Same H H') ⟨_, _, rfl, s1⟩ (fun i σ H' _ ⟨_, _, _, s⟩ => s _ _ hna) ?_ ?_
      · rintro i x σ H2 H3 hi ⟨v3, v4, rfl, s2⟩ ⟨Tp, y1, z1, rfl, hT, rfl, hy, hz⟩
        cases hy
        obtain ⟨b, hb1, rfl⟩ := lst_at hz
        refine ⟨_, _, rfl, SqT.of upd_same, rfl, ?_⟩
        walk_at "q"
        refine ⟨_, rfl, .inl ⟨b, rfl, ?_⟩⟩
        walk_at "q"
        exact ⟨_, _, rfl, s2.trans (same_upd hT)⟩
      rintro σ H2 ⟨v3, v4, rfl, s2⟩
      walk_at "q"
      refine ⟨_, rfl, .inl ⟨y, rfl, ?_⟩⟩
      walk_at "q"
      refine ⟨na, _, kd, rfl, s2 _ _ hna, fun J wk => ?_⟩
      intro D1 nD1
      have l8 := o.l8
      have n8 := o.n8
      have ll := Sz.lane_le o
      have fl := facs_len z ns
      have fb : ns.length * z.l ≤ 32 * 8 := Nat.mul_le_mul (by omega) l8
      refine lc2_inv wk nD1 (fun i acc H' => acc = (facs z (ns.take i)).map V.int ∧ Same H2 H') ⟨by simp [facs], Same.refl _⟩ (fun i acc H' o ⟨e, s⟩ => ⟨e, fun b u e => by rw [upd_ne (ne_of_none e nD1)]; exact s b u e⟩) (fun i acc H' ⟨_, s⟩ => s _ _ (s2 _ _ hna)) ?_ ?_
      · rintro i acc x H4 H5 hi ⟨e, s4⟩ hD4 ⟨rfl, hx⟩ R kR
        obtain ⟨b, hb1, rfl⟩ := lst_at hx
        have hs4 := s4 _ _ (s2 _ _ hs)
        have ha4 := s4 _ _ (s2 _ _ ha)
        walk_at "q"
        refine ⟨rfl, ?_⟩
        walk_at "q"
        refine ⟨_, _, _, _, _, rfl, ha4, T.c_Switch, T.n_Switch_sizes, rfl, ?_⟩
        walk_at "q"
        refine ⟨so, z, b, rfl, o, ⟨ds, hs4⟩, fun r H6 nr s6 hr6 => ?_⟩
        refine ⟨r, rfl, ⟨_, SqL.of hr6⟩, ?_⟩
        refine kR _ _ _ ⟨_, _, _, fun j a H' => a = acc ++ ((digs z.B (b % z.q) z.l).take j).map V.int ∧ Same H2 H' ∧ H' r = some (intL (digs z.B (b % z.q) z.l)), walk_list, s6 _ _ hD4, ⟨by simp, s4.trans s6, hr6⟩, ?_, fun j a H' ⟨_, _, s⟩ => SqL.of s, ?_, ?_⟩
        · intro j a H' o' ⟨e', s', q'⟩
          have nrD : r ≠ D1 := fun e => by rw [e, hD4] at nr; cases nr
          exact ⟨e', fun b' u e'' => by rw [upd_ne (ne_of_none e'' nD1)]; exact s' _ _ e'', by rw [upd_ne nrD]; exact q'⟩
        · intro a H' hD' ⟨e', s', _⟩
          refine ⟨?_, s'⟩
          rw [e', e, List.length_map, List.take_length, facs_snoc z ns i b hb1, List.map_append]
        · rintro j a v H7 H8 hj ⟨e', s', q'⟩ hD' ⟨rfl, hv⟩ Kc kc
          obtain ⟨d, hd1, rfl⟩ := lst_at hv
          walk_at "q"
          refine ⟨rfl, ?_⟩
          walk_at "q"
          refine kc _ _ hD' ?_ ⟨?_, s', q'⟩
          · rw [e', e, List.length_append, List.length_map, List.length_map, List.length_take, digs_length, facs_len]
            have : (ns.take i).length * z.l ≤ 32 * 8 := Nat.mul_le_mul (by rw [List.length_take]; omega) l8
            omega
          · rw [e', List.append_assoc, List.take_add_one, hd1, List.map_append]
            rfl
      rintro acc H4 ⟨e4, s4⟩ hD4
      rw [List.length_map, List.take_length] at e4
      rw [e4] at hD4
      clear e4 acc
      have s24 : Same H H4 := s2.trans s4
      have ha4 := s24 _ _ ha
      have hpl4 := s24 _ _ hpl
      walk_at "q"
      refine ⟨_, _, _, _, _, rfl, ha4, T.c_Switch, T.n_Switch_packed, rfl, ?_⟩
      walk_at "q"
      refine ⟨D1, pl, _, _, rfl, SqL.of hD4, SqL.of hpl4, ?_⟩
      intro D2 nD2
      have lenF : (facs z ns).length ≤ 32 * 8 := by rw [fl]; exact fb
      refine lc_inv (walk_zip rfl) nD2 (fun i acc H' => acc = ((List.zipWith (· * ·) (facs z ns) (lanes z cs)).take i).map V.int ∧ Same H4 H') ⟨rfl, Same.refl _⟩ (fun i acc H' o ⟨e, s⟩ => ⟨e, fun b u e => by rw [upd_ne (ne_of_none e nD2)]; exact s b u e⟩) (fun i acc H' ⟨_, s⟩ => ⟨SqL.of (s _ _ hD4), SqL.of (s _ _ hpl4)⟩) (by simp; omega) ?_ ?_
      · rintro i acc v H5 H6 hi hla ⟨e, s5⟩ hD5 ⟨Tp, y1, z1, rfl, hT, rfl, hy, hz⟩ Kc kc
        obtain ⟨m, hm1, rfl⟩ := lst_at hy
        obtain ⟨b, hb1, rfl⟩ := lst_at hz
        obtain ⟨q1, q2⟩ := facs_bd o m (List.mem_of_getElem? hm1)
        have hle := Sz.hle o
        refine ⟨_, _, rfl, SqT.of upd_same, rfl, ?_⟩
        walk_at "q"
        refine ⟨rfl, ?_⟩
        walk_at "q"
        refine r_I (.inl ⟨by omega, by omega⟩) ?_
        refine kc _ _ (by rw [upd_ne (ne_of_none hD5 hT)]; exact hD5) ⟨?_, s5.trans (same_upd hT)⟩
        rw [e, List.take_add_one, zw_at hm1 hb1, List.map_append]
        rfl
      rintro acc H5 hla ⟨e5, s5⟩ hD5
      have e5 : acc = (List.zipWith (· * ·) (facs z ns) (lanes z cs)).map V.int := by rw [e5, List.take_of_length_le (by simp)]
      rw [e5] at hD5
      have s25 := s24.trans s5
      have ha5 := s25 _ _ ha
      have hs5 := s25 _ _ hs
      walk_at "q"
      refine ⟨D2, _, rfl, SqL.of hD5, ?_⟩
      walk_at "q"
      refine ⟨_, _, _, _, _, rfl, ha5, T.c_Switch, T.n_Switch_lane, rfl, ?_⟩
      walk_at "q"
      refine ⟨_, _, _, _, _, rfl, ha5, T.c_Switch, T.n_Switch_sizes, rfl, ?_⟩
      walk_at "q"
      refine ⟨_, _, _, _, _, rfl, hs5, T.c_Sizes, T.n_Sizes_length, rfl, ?_⟩
      walk_at "q"
      have lane1 : z.lane = (z.lane - 1) + 1 := by unfold Sz.lane; omega
      refine ⟨dotZ (facs z ns) (lanes z cs), z.lane - 1, z.n + 1, ?_, by omega, by omega, fun r H6 s6 hr6 => ?_⟩
      · rw [← lane1]
        rfl
      rw [← lane1] at hr6
      have hr6 : H6 r = some (intL (ledRow z cs ns)) := hr6
      have s26 := s25.trans s6
      have ha6 := s26 _ _ ha
      have hs6 := s26 _ _ hs
      obtain ⟨ra, rv, hrow⟩ : ∃ ra rv, ledRow z cs ns = ra ++ [rv] ∧ ra.length = z.n := ⟨_, _, rfl, unp_length _ _ _ _⟩
      obtain ⟨hrow, hral⟩ := hrow
      rw [hrow] at hr6
      have hr6 : H6 r = some (.lst (ra.map V.int ++ [.int rv])) := by rw [hr6]; simp [intL]
      walk_at "q"
      refine ⟨_, _, _, _, _, rfl, ha6, T.c_Switch, T.n_Switch_sizes, rfl, ?_⟩
      walk_at "q"
      refine ⟨-1, rfl, r, _, rfl, SqL.of hr6, fun p7 np7 => ?_⟩
      rw [cut_last]
      generalize hu : upd H6 p7 _ = H7
      obtain ⟨s7, hp7⟩ := nwx np7 hu
      clear hu
      refine ⟨p7, rfl, ⟨_, SqL.of hp7⟩, ?_⟩
      intro D3 nD3
      refine lc_inv walk_list nD3 (fun i acc H' => acc = ((ra.map fun x => -x).take i).map V.int ∧ Same H7 H') ⟨rfl, Same.refl _⟩ (fun i acc H' o ⟨e, s⟩ => ⟨e, fun b u e => by rw [upd_ne (ne_of_none e nD3)]; exact s b u e⟩) (fun i acc H' ⟨_, s⟩ => SqL.of (s _ _ hp7)) (by rw [List.length_map]; omega) ?_ ?_
      · rintro i acc v H8 H9 hi hla ⟨e, s8⟩ hD8 ⟨rfl, hv⟩ Kc kc
        obtain ⟨d, hd1, rfl⟩ := lst_at hv
        walk_at "q"
        refine ⟨rfl, ?_⟩
        walk_at "q"
        refine kc _ _ hD8 ⟨?_, s8⟩
        rw [e, List.take_add_one, List.getElem?_map, hd1, List.map_append]
        rfl
      rintro acc H8 hla8 ⟨e8, s8⟩ hD8
      have e8 : acc = (ra.map fun x => -x).map V.int := by rw [e8, List.take_of_length_le (by simp)]
      rw [e8] at hD8
      have s68 : Same H6 H8 := s7.trans s8
      walk_at "q"
      refine ⟨r, _, _, _, rfl, rfl, SqL.of (s68 _ _ hr6), atI_last _ _, ?_⟩
      walk_at "q"
      intro x xd nx nd ne
      have s9 := made_new (o := .ins 377 xd []) (u := .own x) nx nd ne
      have s28 := s26.trans s68
      refine ⟨x, xd, so, D3, z, _, _, rfl, o, upd_same, ⟨ds, s9 _ _ (s28 _ _ hs)⟩, s9 _ _ (by rw [hD8]; rfl), by simp [hral], fun H9 k9 c9 => ⟨rfl, ?_⟩⟩
      have s89 : Same H8 H9 := fun b u e => k9 _ _ (ne_of_none e nx) (s9 _ _ e)
      refine h x H9 (Same.back s28 nx) (s28.trans s89) ?_
      have e1 : ledOf z cs ns y = ⟨(ra.map fun x => -x).map (· % z.q), (y - rv) % z.q⟩ := by
        unfold ledOf
        rw [hrow, List.take_append_of_le_length (by omega), List.take_of_length_le (by omega), List.getD_eq_getElem?_getD, List.getElem?_append_right (by omega), hral, Nat.sub_self, List.map_map]
        rfl
      rw [e1]
      exact c9
    · rcases bad with ⟨rfl, t, ty, k1, k2⟩ | ⟨rfl, na, xs, kd, rfl, hna, hl⟩ | ⟨na, xs, kd, i0, x0, rfl, hna, hl, rfl, hx0, nx0, hbef⟩
      · refine r_isLT hp0 k1 k2 rfl (TyX.same ty s1) ?_
        walk_at "q"
        refine ⟨_, rfl, ?_⟩
        walk_at "q"
        refine ⟨_, rfl, fun d nd => ?_⟩
        exact h d _ upd_same (hsame (Same.back s1 nd) s1)
      · refine r_isSq hp0 (s1 _ _ hna) ?_
        walk_at "q"
        refine ⟨na, xs, rfl, sq_or (s1 _ _ hna), ?_⟩
        walk_at "q"
        refine ⟨_, _, _, _, _, rfl, (s1 _ _ ha), T.c_Switch, T.n_Switch_width, rfl, ?_⟩
        walk_at "q"
        refine r_posN (by omega) ?_
        walk_at "q"
        refine ⟨_, rfl, fun d nd => ?_⟩
        exact h d _ upd_same (hsame (Same.back s1 nd) s1)
      · refine r_isSq hp0 (s1 _ _ hna) ?_
        walk_at "q"
        refine ⟨na, xs, rfl, sq_or (s1 _ _ hna), ?_⟩
        walk_at "q"
        refine ⟨_, _, _, _, _, rfl, (s1 _ _ ha), T.c_Switch, T.n_Switch_width, rfl, ?_⟩
        walk_at "q"
        refine r_negN (by omega) ?_
        walk_at "q"
        refine ⟨na, xs, kd, rfl, s1 _ _ hna, fun J wk => ?_⟩
        refine for_it wk (fun i σ H' => ∃ v3 v4, σ = [some (.ref a), some (.ref na), some bv, v3, v4, none, none, none, none, none, none] ∧ Same H H' ∧ i ≤ i0) ⟨_, _, rfl, s1, Nat.zero_le _⟩ (fun i σ H' _ ⟨_, _, _, s, _⟩ => s _ _ hna) ?_ ?_
        · rintro i x σ H2 H3 hi ⟨v3, v4, rfl, s2, hi0⟩ ⟨Tp, y1, z1, rfl, hT, rfl, hy, hz⟩
          cases hy
          refine ⟨_, _, rfl, SqT.of upd_same, rfl, ?_⟩
          have s3 : Same H (upd H2 Tp (.tup [.int (i : Nat), z1])) := s2.trans (same_upd hT)
          have hz : xs[i]? = some z1 := hz
          walk_at "q"
          rcases Nat.lt_or_ge i i0 with q | q
          · obtain ⟨n, hn⟩ := hbef i q
            rw [hn] at hz
            cases hz
            refine ⟨_, rfl, .inl ⟨n, rfl, ?_⟩⟩
            walk_at "q"
            exact ⟨_, _, rfl, s3, q⟩
          · have e : i = i0 := by omega
            subst e
            rw [hx0] at hz
            cases hz
            refine ⟨_, rfl, .inr ⟨nx0.same s3, ?_⟩⟩
            walk_at "q"
            refine ⟨_, rfl, fun d nd => ?_⟩
            exact h d _ upd_same (hsame (Same.back s3 nd) s3)
        · rintro σ H2 ⟨v3, v4, rfl, s2, hi0⟩
          have := (List.getElem?_eq_some_iff.mp hx0).1
          omega
    · -- the body is refused
      refine r_isSq hp0 (s1 _ _ hna) ?_
      walk_at "q"
      refine ⟨na, _, rfl, sq_or (s1 _ _ hna), ?_⟩
      walk_at "q"
      refine ⟨_, _, _, _, _, rfl, (s1 _ _ ha), T.c_Switch, T.n_Switch_width, rfl, ?_⟩
      walk_at "q"
      refine r_negN (by rw [List.length_map]; omega) ?_
      walk_at "q"
      refine ⟨na, _, kd, rfl, s1 _ _ hna, fun J wk => ?_⟩
      refine for_it wk (fun i σ H' => ∃ v3 v4, σ = [some (.ref a), some (.ref na), some bv, v3, v4, none, none, none, none, none, none] ∧ Same H H') ⟨_, _, rfl, s1⟩ (fun i σ H' _ ⟨_, _, _, s⟩ => s _ _ hna) ?_ ?_
      · rintro i x σ H2 H3 hi ⟨v3, v4, rfl, s2⟩ ⟨Tp, y1, z1, rfl, hT, rfl, hy, hz⟩
        cases hy
        obtain ⟨b, hb1, rfl⟩ := lst_at hz
        refine ⟨_, _, rfl, SqT.of upd_same, rfl, ?_⟩
        walk_at "q"
        refine ⟨_, rfl, .inl ⟨b, rfl, ?_⟩⟩
        walk_at "q"
        exact ⟨_, _, rfl, s2.trans (same_upd hT)⟩
      · rintro σ H2 ⟨v3, v4, rfl, s2⟩
        walk_at "q"
        refine ⟨_, rfl, .inr ⟨hb.same s2, ?_⟩⟩
        walk_at "q"
        refine ⟨_, rfl, fun d nd => ?_⟩
        exact h d _ upd_same (hsame (Same.back s2 nd) s2)
end
end K20

set_option Elab.async false
set_option linter.all false
set_option maxRecDepth 100000
set_option maxHeartbeats 4000000
namespace K20
open PySem PySem.Spec PyProof.Rows L2
local macro_rules | `(tactic| walk_at "q1") => `(tactic| first
  | with_reducible refine r_seq ?_ | with_reducible refine r_asg ?_ | with_reducible refine r_name ?_ | with_reducible refine r_ret ?_ | with_reducible refine r_ifS ?_ | with_reducible refine r_next ?_ | with_reducible refine r_drop ?_
  | ((with_reducible show tVar _ _ _ _); refine ⟨_, rfl, ?_⟩) | with_reducible refine r_c ?_ | with_reducible refine r_op ?_ | with_reducible refine r_un ?_ | with_reducible refine r_I0 ?_ | with_reducible refine r_U ?_
  | with_reducible refine r_eqI ?_ | with_reducible refine r_neI ?_ | with_reducible refine r_neB ?_ | with_reducible refine r_cb ?_ | with_reducible refine r_cons ?_ | with_reducible refine r_nil ?_ | with_reducible refine r_test ?_ | with_reducible refine r_tB ?_
  | with_reducible refine r_bl ?_ | with_reducible refine r_not ?_ | with_reducible refine r_notV ?_ | with_reducible refine r_and ?_ | with_reducible refine r_or ?_ | with_reducible refine r_andV ?_ | with_reducible refine r_orV ?_ | with_reducible refine r_if ?_
  | with_reducible refine r_T ?_ | with_reducible refine r_F ?_ | with_reducible refine r_NT ?_ | with_reducible refine r_NF ?_ | with_reducible refine r_call ?_ | with_reducible refine r_meth ?_ | with_reducible refine r_int1 ?_ | with_reducible refine r_fld ?_
  | with_reducible refine r_tup ?_ | with_reducible refine r_lst ?_ | with_reducible refine r_par ?_ | with_reducible refine r_par3 ?_ | with_reducible refine r_two ?_ | with_reducible refine r_three ?_ | with_reducible refine r_abs ?_ | with_reducible refine r_max ?_
  | with_reducible refine r_cut ?_ | with_reducible refine r_lc ?_ | with_reducible refine r_lc2 ?_ | with_reducible refine r_mkB ?_ | with_reducible refine r_for ?_ | with_reducible refine r_iList ?_ | with_reducible refine r_iTup ?_ | with_reducible refine r_revL ?_ | with_reducible refine r_star ?_ | with_reducible refine r_bits ?_ | with_reducible refine r_iRng ?_ | with_reducible refine r_iEnum ?_ | with_reducible refine r_iZip ?_ | with_reducible refine r_sub ?_ | with_reducible refine r_sfld ?_ | with_reducible refine r_bm ?_
  | with_reducible refine r_methK ?_ | with_reducible refine r_methS ?_ | with_reducible refine r_make ?_ | with_reducible refine r_mod ?_ | with_reducible refine r_gtup ?_ | with_reducible refine r_gcons ?_ | with_reducible refine r_gnil ?_ | with_reducible refine r_slc ?_ | with_reducible refine r_part ?_ | with_reducible refine r_noPart ?_)
local macro_rules | `(tactic| walk_at "nw") => `(tactic| (intro p hp; generalize hu : upd _ p _ = H1; obtain ⟨s1, hp1⟩ := nwx hp hu; clear hu))
local macro_rules | `(tactic| walk_at "q") => `(tactic| repeat walk_at "q1")
section
variable {P : Program} {w : World} {K : Fr} {mg : Str → Option Value} {base : Heap}
/-! ### the law's draws -/
theorem pm_bd (x : Int) : 0 ≤ x % 2305843009213693951 ∧ x % 2305843009213693951 < Pm := ⟨Int.emod_nonneg _ (by decide), Int.emod_lt_of_pos _ (by decide)⟩
def spDraw : Sp := fun vs H Q _ => ∃ (b c : Addr) (m : Int) (k : Nat), vs = [.ref b, .int m] ∧ 0 < m ∧ m ≤ 2 ^ 200 ∧ k ≤ 1000000 ∧ Bag b c k H ∧ ∀ d H', 0 ≤ d → d < m → Bag b c (k + 1) H' → KpB H H' → Q (.int d) H'
theorem ok_draw (T : Txt K mg) : C8.Cal P w K mg base 1 "_law_draw" spDraw [] := by
  have S : FnScope ["_law_bag_here", "_law_many", "_law_cell", "_law_digit"] ["_law_bag_here", "_law_many"] (C8.fnScope (top 56)) := C8.fnScope_by (by decide +kernel)
  refine cal_of T.f_law_draw T.g_law_draw S (fun _ _ _ _ _ _ us hl => match us, hl with | [_, _], _ => rfl) (fun vs H Q E h => ?_) (fun cdv A outer s H vs Q E hr h => ?_)
  · obtain ⟨b, c, m, k, rfl, _⟩ := h
    rfl
  · obtain ⟨b, c, m, k, rfl, m0, m2, hk, ⟨cells, i, g, x, n, b0, c0, hi, hg, hx0, hx1, hn0, hn1⟩, h⟩ := h
    refine ⟨_, (pss_cons (ps_asg (pe_op op_add (pe_ix (ix_listK (K := K) rfl) (pv 0) pe_int (fun _ _ => rfl)) pe_int) (pg_sub (pv 0) pe_int set_list))
      (C8.pss_cut (ps_if (PW.pt (pw_and (pt_cmpR op_eq (pe_ix (ix_listK (K := K) rfl) (pv 0) pe_int (fun _ _ => rfl)) pe_int (nomark _)) (pw_and1 (pt_cmpR op_lt (pe_ix (ix_listK (K := K) rfl) (pv 0) pe_int (fun _ _ => rfl)) (pe_callB call_len_seq rfl T.z_len (by decide +kernel) (pa_cons (pe_ix (ix_listK (K := K) rfl) (pv 0) pe_int (fun _ _ => rfl)) pa_nil)) (nomark _))))) (pss_cons (ps_set (i := 2) S.nd rfl (Or.inl rfl) (pe_callTy call_int1 rfl T.z_int (by decide +kernel) (pa_cons (pe_ix (ix_listK (K := K) rfl) (pe_ix (ix_listK (K := K) rfl) (pv 0) pe_int (fun _ _ => rfl)) (pe_ix (ix_listK (K := K) rfl) (pv 0) pe_int (fun _ _ => rfl)) (fun _ _ => rfl)) pa_nil)))
      (pss_cons (ps_asg (pe_op op_add (pe_ix (ix_listK (K := K) rfl) (pv 0) pe_int (fun _ _ => rfl)) pe_int) (pg_sub (pv 0) pe_int set_list))
      (pss_one (ps_if (pt_cmpR op_ge (pv 2) (pe_op op_powW pe_int pe_int) (nomark _)) (pss_one (ps_asg (pv 2) (pg_sub (pv 0) pe_int set_list))) (pss_one (ps_asg (pe_op op_mod (pe_callTy call_int1 rfl T.z_int (by decide +kernel) (pa_cons (pe_op op_powW (pe_op op_add (pe_op op_add (pe_ix (ix_listK (K := K) rfl) (pv 0) pe_int (fun _ _ => rfl)) (pe_op op_mul (pe_op op_mod (pe_callTy call_int1 rfl T.z_int (by decide +kernel) (pa_cons (pv 2) pa_nil)) pe_int) pe_int)) pe_int) pe_int) pa_nil)) pe_int) (pg_sub (pv 0) pe_int set_list))))))) pss_nil)
      (pss_cons (ps_if (pt_cmpR op_gt (pe_ix (ix_listK (K := K) rfl) (pv 0) pe_int (fun _ _ => rfl)) pe_int (nomark _)) (pss_cons (ps_set (i := 3) S.nd rfl (Or.inl rfl) (pe_op op_mod (pe_callTy call_int1 rfl T.z_int (by decide +kernel) (pa_cons (pe_ix (ix_listK (K := K) rfl) (pv 0) pe_int (fun _ _ => rfl)) pa_nil)) (pv 1)))
      (pss_cons (ps_asg (pe_op op_fdivW (pe_callTy call_int1 rfl T.z_int (by decide +kernel) (pa_cons (pe_ix (ix_listK (K := K) rfl) (pv 0) pe_int (fun _ _ => rfl)) pa_nil)) (pv 1)) (pg_sub (pv 0) pe_int set_list))
      (pss_one (ps_ret (pv 3))))) pss_nil)
      (pss_cons (ps_asg (pe_op op_mod (pe_callTy call_int1 rfl T.z_int (by decide +kernel) (pa_cons (pe_op op_powW (pe_op op_add (pe_op op_add (pe_ix (ix_listK (K := K) rfl) (pv 0) pe_int (fun _ _ => rfl)) (pe_op op_mul (pe_ix (ix_listK (K := K) rfl) (pv 0) pe_int (fun _ _ => rfl)) pe_int)) pe_int) pe_int) pa_nil)) pe_int) (pg_sub (pv 0) pe_int set_list))
      (pss_one (ps_ret (pe_op op_mod (pe_callTy call_int1 rfl T.z_int (by decide +kernel) (pa_cons (pe_op op_fdivW (pe_ix (ix_listK (K := K) rfl) (pv 0) pe_int (fun _ _ => rfl)) pe_int) pa_nil)) (pv 1)))))))), ?_⟩
    obtain ⟨i, rfl⟩ := Int.eq_ofNat_of_zero_le hi
    have ncb : c ≠ b := fun e => by
      rw [e, b0] at c0
      have q := isBag_intL cells
      rw [← Option.some.inj c0] at q
      cases q
    have k0 : KpB H H := KpB.refl H
    have pm : Pm = 2305843009213693951 := rfl
    walk_at "q"
    refine ⟨b, _, 4, _, rfl, rfl, SqL.of b0, rfl, ?_⟩
    walk_at "q"
    refine ⟨b, _, 4, 4, rfl, rfl, b0, rfl, ?_⟩
    generalize hu : upd H b _ = H1
    have b1 : H1 b = some (.lst [.ref c, .int i, .int g, .int x, .int (n + 1)]) := by rw [← hu, upd_same]; rfl
    have c1 : H1 c = some (intL cells) := by rw [← hu, upd_ne ncb]; exact c0
    have k1 : KpB H H1 := k0.trans (by rw [← hu]; exact KpB.upd b0 rfl)
    clear hu
    walk_at "q"
    refine ⟨fun σ' H' => ∃ (v2 : Option V) (i' : Nat) (g' x' : Int), σ' = [some (.ref b), some (.int m), v2, none] ∧ H' b = some (.lst [.ref c, .int i', .int g', .int x', .int (n + 1)]) ∧ H' c = some (intL cells) ∧ KpB H H' ∧ 0 ≤ g' ∧ 0 ≤ x' ∧ x' < Pm, ?_, ?_⟩
    · walk_at "q"
      refine ⟨b, _, 2, _, rfl, rfl, SqL.of b1, rfl, ?_⟩
      walk_at "q"
      refine r_ite (fun eg => ?_) fun eg => ?_
      · walk_at "q"
        refine ⟨b, _, 1, _, rfl, rfl, SqL.of b1, rfl, ?_⟩
        walk_at "q"
        refine ⟨b, _, 0, _, rfl, rfl, SqL.of b1, rfl, ?_⟩
        walk_at "q"
        refine ⟨c, _, rfl, .inl (SqL.of c1), ?_⟩
        walk_at "q"
        refine r_ite (fun lt => ?_) fun lt => ?_
        · have lt : i < cells.length := by rw [List.length_map] at lt; omega
          walk_at "q"
          refine ⟨b, _, 0, _, rfl, rfl, SqL.of b1, rfl, ?_⟩
          walk_at "q"
          refine ⟨b, _, 1, _, rfl, rfl, SqL.of b1, rfl, ?_⟩
          walk_at "q"
          refine ⟨c, _, (i : Nat), _, rfl, rfl, SqL.of c1, atI_nat (by rw [List.getElem?_map, List.getElem?_eq_getElem lt]; rfl), ?_⟩
          walk_at "q"
          refine .inl ⟨_, rfl, ?_⟩
          walk_at "q"
          refine ⟨b, _, 1, _, rfl, rfl, SqL.of b1, rfl, ?_⟩
          walk_at "q"
          refine ⟨b, _, 1, 1, rfl, rfl, b1, rfl, ?_⟩
          generalize hu : upd H1 b _ = H2
          have b2 : H2 b = some (.lst [.ref c, .int ((i : Nat) + 1 : Int), .int g, .int x, .int (n + 1)]) := by rw [← hu, upd_same]; rfl
          have c2 : H2 c = some (intL cells) := by rw [← hu, upd_ne ncb]; exact c1
          have k2 : KpB H H2 := k1.trans (by rw [← hu]; exact KpB.upd b1 rfl)
          clear hu
          walk_at "q"
          refine r_I (powW_ok (n := 4) (m := 18) (by decide) (by decide) rfl (by decide)) ?_
          walk_at "q"
          refine r_ite (fun ge => ?_) fun ge => ?_
          · walk_at "q"
            refine ⟨b, _, 2, 2, rfl, rfl, b2, rfl, ?_⟩
            generalize hu : upd H2 b _ = H3
            have b3 : H3 b = some (.lst [.ref c, .int ((i : Nat) + 1 : Int), .int cells[i], .int x, .int (n + 1)]) := by rw [← hu, upd_same]; rfl
            have c3 : H3 c = some (intL cells) := by rw [← hu, upd_ne ncb]; exact c2
            have k3 : KpB H H3 := k2.trans (by rw [← hu]; exact KpB.upd b2 rfl)
            clear hu
            walk_at "q"
            have e18 : (10 : Int) ^ (18 : Int).toNat = 1000000000000000000 := by decide
            exact ⟨_, i + 1, cells[i], x, rfl, b3, c3, k3, by omega, hx0, hx1⟩
          · walk_at "q"
            refine ⟨b, _, 3, _, rfl, rfl, SqL.of b2, rfl, ?_⟩
            walk_at "q"
            refine .inl ⟨_, rfl, ?_⟩
            walk_at "q"
            refine r_I (by decide) ?_
            walk_at "q"
            have r0 := pm_bd cells[i]
            refine r_I (.inr ⟨by decide, by decide⟩) ?_
            walk_at "q"
            have q0 := Int.emod_nonneg cells[i] (show (2305843009213693921 : Int) ≠ 0 by decide)
            have q1 := Int.emod_lt_of_pos cells[i] (show (0 : Int) < 2305843009213693921 by decide)
            refine r_I (powW_ok (n := 100) (m := 3) (by omega) (by decide) rfl (by decide)) ?_
            walk_at "q"
            refine .inl ⟨_, rfl, ?_⟩
            walk_at "q"
            refine r_I (by decide) ?_
            walk_at "q"
            refine ⟨b, _, 3, 3, rfl, rfl, b2, rfl, ?_⟩
            generalize hz : (x + cells[i] % 2305843009213693921 * 11 + 41) ^ (3 : Int).toNat % 2305843009213693951 = z
            have zb : 0 ≤ z ∧ z < Pm := by rw [← hz]; exact pm_bd _
            generalize hu : upd H2 b _ = H3
            have b3 : H3 b = some (.lst [.ref c, .int ((i : Nat) + 1 : Int), .int g, .int z, .int (n + 1)]) := by rw [← hu, upd_same]; rfl
            have c3 : H3 c = some (intL cells) := by rw [← hu, upd_ne ncb]; exact c2
            have k3 : KpB H H3 := k2.trans (by rw [← hu]; exact KpB.upd b2 rfl)
            clear hu
            walk_at "q"
            exact ⟨_, i + 1, g, z, rfl, b3, c3, k3, hg, zb.1, zb.2⟩
        · walk_at "q"
          exact ⟨_, i, g, x, rfl, b1, c1, k1, hg, hx0, hx1⟩
      · walk_at "q"
        exact ⟨_, i, g, x, rfl, b1, c1, k1, hg, hx0, hx1⟩
    · rintro σ' H2 ⟨v2, i', g', x', rfl, b2, c2, k2, hg', hx0', hx1'⟩
      walk_at "q"
      refine ⟨b, _, 2, _, rfl, rfl, SqL.of b2, rfl, ?_⟩
      walk_at "q"
      refine r_ite (fun pos => ?_) fun pos => ?_
      · walk_at "q"
        refine ⟨b, _, 2, _, rfl, rfl, SqL.of b2, rfl, ?_⟩
        walk_at "q"
        refine .inl ⟨_, rfl, ?_⟩
        walk_at "q"
        refine r_I m0 ?_
        walk_at "q"
        refine ⟨b, _, 2, _, rfl, rfl, SqL.of b2, rfl, ?_⟩
        walk_at "q"
        refine .inl ⟨_, rfl, ?_⟩
        walk_at "q"
        refine r_I (wide_div (b := 201) m0 (by omega) (by decide) (by decide)) ?_
        walk_at "q"
        refine ⟨b, _, 2, 2, rfl, rfl, b2, rfl, ?_⟩
        generalize hu : upd H2 b _ = H3
        have b3 : H3 b = some (.lst [.ref c, .int i', .int (g' / m), .int x', .int (n + 1)]) := by rw [← hu, upd_same]; rfl
        have c3 : H3 c = some (intL cells) := by rw [← hu, upd_ne ncb]; exact c2
        have k3 : KpB H H3 := k2.trans (by rw [← hu]; exact KpB.upd b2 rfl)
        clear hu
        walk_at "q"
        exact h _ _ (Int.emod_nonneg _ (by omega)) (Int.emod_lt_of_pos _ m0) ⟨cells, i', g' / m, x', n + 1, b3, c3, by omega, Int.ediv_nonneg hg' (by omega), hx0', hx1', by omega, by omega⟩ k3
      · walk_at "q"
        refine ⟨b, _, 3, _, rfl, rfl, SqL.of b2, rfl, ?_⟩
        walk_at "q"
        refine ⟨b, _, 4, _, rfl, rfl, SqL.of b2, rfl, ?_⟩
        walk_at "q"
        refine r_I (.inr ⟨by decide, by decide⟩) ?_
        walk_at "q"
        refine r_I (powW_ok (n := 100) (m := 3) (by omega) (by decide) rfl (by decide)) ?_
        walk_at "q"
        refine .inl ⟨_, rfl, ?_⟩
        walk_at "q"
        refine r_I (by decide) ?_
        walk_at "q"
        refine ⟨b, _, 3, 3, rfl, rfl, b2, rfl, ?_⟩
        generalize hz : (x' + (n + 1) * 1000003 + 31) ^ (3 : Int).toNat % 2305843009213693951 = z
        have zb : 0 ≤ z ∧ z < Pm := by rw [← hz]; exact pm_bd _
        generalize hu : upd H2 b _ = H3
        have b3 : H3 b = some (.lst [.ref c, .int i', .int g', .int z, .int (n + 1)]) := by rw [← hu, upd_same]; rfl
        have c3 : H3 c = some (intL cells) := by rw [← hu, upd_ne ncb]; exact c2
        have k3 : KpB H H3 := k2.trans (by rw [← hu]; exact KpB.upd b2 rfl)
        clear hu
        walk_at "q"
        refine ⟨b, _, 3, _, rfl, rfl, SqL.of b3, rfl, ?_⟩
        walk_at "q"
        refine r_I (wide_div (b := 40) (by decide) (by decide) (by decide) (by decide)) ?_
        walk_at "q"
        refine .inl ⟨_, rfl, ?_⟩
        walk_at "q"
        refine r_I m0 ?_
        exact h _ _ (Int.emod_nonneg _ (by omega)) (Int.emod_lt_of_pos _ m0) ⟨cells, i', g', z, n + 1, b3, c3, by omega, hg', zb.1, zb.2, by omega, by omega⟩ k3
end
end K20

set_option Elab.async false
set_option linter.all false
set_option maxRecDepth 100000
set_option maxHeartbeats 4000000
namespace K20
open PySem PySem.Spec PyProof.Rows L2
local macro_rules | `(tactic| walk_at "q1") => `(tactic| first
  | with_reducible refine r_seq ?_ | with_reducible refine r_asg ?_ | with_reducible refine r_name ?_ | with_reducible refine r_ret ?_ | with_reducible refine r_ifS ?_ | with_reducible refine r_next ?_ | with_reducible refine r_drop ?_
  | ((with_reducible show tVar _ _ _ _); refine ⟨_, rfl, ?_⟩) | with_reducible refine r_c ?_ | with_reducible refine r_op ?_ | with_reducible refine r_un ?_ | with_reducible refine r_I0 ?_ | with_reducible refine r_U ?_
  | with_reducible refine r_eqI ?_ | with_reducible refine r_neI ?_ | with_reducible refine r_neB ?_ | with_reducible refine r_cb ?_ | with_reducible refine r_cons ?_ | with_reducible refine r_nil ?_ | with_reducible refine r_test ?_ | with_reducible refine r_tB ?_
  | with_reducible refine r_bl ?_ | with_reducible refine r_not ?_ | with_reducible refine r_notV ?_ | with_reducible refine r_and ?_ | with_reducible refine r_or ?_ | with_reducible refine r_andV ?_ | with_reducible refine r_orV ?_ | with_reducible refine r_if ?_
  | with_reducible refine r_T ?_ | with_reducible refine r_F ?_ | with_reducible refine r_NT ?_ | with_reducible refine r_NF ?_ | with_reducible refine r_call ?_ | with_reducible refine r_meth ?_ | with_reducible refine r_int1 ?_ | with_reducible refine r_fld ?_
  | with_reducible refine r_tup ?_ | with_reducible refine r_lst ?_ | with_reducible refine r_par ?_ | with_reducible refine r_par3 ?_ | with_reducible refine r_two ?_ | with_reducible refine r_three ?_ | with_reducible refine r_abs ?_ | with_reducible refine r_max ?_
  | with_reducible refine r_cut ?_ | with_reducible refine r_callS ?_ | with_reducible refine r_zipA ?_ | with_reducible refine r_isN ?_ | with_reducible refine r_lc ?_ | with_reducible refine r_lc2 ?_ | with_reducible refine r_mkB ?_ | with_reducible refine r_for ?_ | with_reducible refine r_iList ?_ | with_reducible refine r_iTup ?_ | with_reducible refine r_revL ?_ | with_reducible refine r_star ?_ | with_reducible refine r_bits ?_ | with_reducible refine r_iRng ?_ | with_reducible refine r_iEnum ?_ | with_reducible refine r_iZip ?_ | with_reducible refine r_sub ?_ | with_reducible refine r_sfld ?_ | with_reducible refine r_bm ?_
  | with_reducible refine r_methK ?_ | with_reducible refine r_methS ?_ | with_reducible refine r_make ?_ | with_reducible refine r_mod ?_ | with_reducible refine r_gtup ?_ | with_reducible refine r_gcons ?_ | with_reducible refine r_gnil ?_ | with_reducible refine r_slc ?_ | with_reducible refine r_part ?_ | with_reducible refine r_noPart ?_)
local macro_rules | `(tactic| walk_at "nw") => `(tactic| (intro p hp; generalize hu : upd _ p _ = H1; obtain ⟨s1, hp1⟩ := nwx hp hu; clear hu))
local macro_rules | `(tactic| walk_at "q") => `(tactic| repeat walk_at "q1")
section
variable {P : Program} {w : World} {K : Fr} {mg : Str → Option Value} {base : Heap}
/-! ### the bag; what is drawn by it -/
theorem cut_ints (ns : List Int) (lo hi : Option Int) : ∃ ms : List Int, cutV (ns.map V.int) lo hi = ms.map V.int := by
  unfold cutV
  rw [← List.map_drop, ← List.map_take]
  exact ⟨_, rfl⟩
theorem sqL_same {H H' : Hp} {a : Addr} {xs : List V} (h : SqL K H a xs) (s : Same H H') : SqL K H' a xs := h.elim (fun r => .inl (r.elim (fun e => .inl (s _ _ e)) fun ⟨o, e⟩ => .inr ⟨o, s _ _ e⟩)) .inr
def spBag (K : Fr) : Sp := fun vs H Q _ => ∃ (a : Addr) (ns : List Int), vs = [.ref a] ∧ SqL K H a (ns.map V.int) ∧ ∀ b c H', Same H H' → Bag b c 0 H' → Q (.ref b) H'
theorem ok_bag (T : Txt K mg) : C8.Cal P w K mg base 1 "_law_bag" (spBag K) [] := by
  have S : FnScope ["_law_script", "_law_mixed", "_law_cell"] ["_law_script"] (C8.fnScope (top 55)) := C8.fnScope_by (by decide +kernel)
  refine cal_of T.f_law_bag T.g_law_bag S (fun _ _ _ _ _ _ us hl => match us, hl with | [_], _ => rfl) (fun vs H Q E h => ?_) (fun cdv A outer s H vs Q E hr h => ?_)
  · obtain ⟨a, ns, rfl, _⟩ := h
    rfl
  · obtain ⟨a, ns, rfl, ha, h⟩ := h
    refine ⟨_, (pss_cons (ps_set (i := 1) S.nd rfl (Or.inl rfl) pe_int)
      (pss_cons (ps_for PassesOwn.never rfl (pi_listK (K := K) rfl (pe_slice sl_list (pv 0) po_none (po_some pe_int))) (pg_name (i := 2) S.nd rfl (Or.inl rfl)) (pss_one (ps_set (i := 1) S.nd rfl (Or.inl rfl) (pe_op op_mod (pe_callTy call_int1 rfl T.z_int (by decide +kernel) (pa_cons (pe_op op_powW (pe_op op_add (pe_op op_add (pv 1) (pe_op op_mod (pe_callTy call_int1 rfl T.z_int (by decide +kernel) (pa_cons (pv 2) pa_nil)) pe_int)) pe_int) pe_int) pa_nil)) pe_int))))
      (pss_one (ps_ret (pe_lst (pa_cons (pe_callTy call_list_of rfl T.z_list (by decide +kernel) (pa_cons (pe_slice sl_list (pv 0) po_none (po_some pe_int)) pa_nil)) (pa_cons pe_int (pa_cons pe_int (pa_cons (pv 1) (pa_cons pe_int pa_nil)))))))))), ?_⟩
    have pm : Pm = 2305843009213693951 := rfl
    obtain ⟨ms, hms⟩ := cut_ints ns none (some 63)
    walk_at "q"
    refine ⟨63, rfl, a, _, rfl, ha, fun p np => ?_⟩
    rw [hms]
    generalize hu : upd _ p _ = H1
    obtain ⟨s1, hp⟩ := nwx np hu
    clear hu
    refine ⟨p, rfl, ⟨_, SqL.of hp⟩, ?_⟩
    refine for_it walk_list (fun i σ H' => ∃ (v2 : Option V) (x : Int), σ = [some (.ref a), some (.int x), v2] ∧ 0 ≤ x ∧ x < Pm ∧ H' = H1) ⟨_, 13967, rfl, by decide, by decide, rfl⟩ (fun i σ H' _ ⟨_, _, _, _, _, e⟩ => by rw [e]; exact SqL.of hp) ?_ ?_
    · rintro i x σ H2 H3 hi ⟨v2, m, rfl, m0, m1, rfl⟩ ⟨rfl, hx⟩
      obtain ⟨b, hb1, rfl⟩ := lst_at hx
      have q0 := Int.emod_nonneg b (show (2305843009213693921 : Int) ≠ 0 by decide)
      have q1 := Int.emod_lt_of_pos b (show (0 : Int) < 2305843009213693921 by decide)
      walk_at "q"
      refine .inl ⟨_, rfl, ?_⟩
      walk_at "q"
      refine r_I (by decide) ?_
      walk_at "q"
      refine r_I (powW_ok (n := 100) (m := 3) (by omega) (by decide) rfl (by decide)) ?_
      walk_at "q"
      refine .inl ⟨_, rfl, ?_⟩
      walk_at "q"
      refine r_I (by decide) ?_
      walk_at "q"
      exact ⟨_, _, rfl, (pm_bd _).1, (pm_bd _).2, rfl⟩
    · rintro σ H2 ⟨v2, m, rfl, m0, m1, rfl⟩
      walk_at "q"
      refine ⟨63, rfl, a, _, rfl, sqL_same ha s1, fun p3 np3 => ?_⟩
      rw [hms]
      generalize hu : upd _ p3 _ = H3
      obtain ⟨s3, hp3⟩ := nwx np3 hu
      clear hu
      refine ⟨p3, _, rfl, .inl (SqL.of hp3), fun p4 np4 => ?_⟩
      generalize hu : upd _ p4 _ = H4
      obtain ⟨s4, hp4⟩ := nwx np4 hu
      clear hu
      walk_at "q"
      refine ⟨(show (5 : Nat) ≤ sizeLine by decide), fun p5 np5 => ?_⟩
      generalize hu : upd _ p5 _ = H5
      obtain ⟨s5, hp5⟩ := nwx np5 hu
      clear hu
      exact h p5 p4 _ (s1.trans (s3.trans (s4.trans s5))) ⟨ms, 0, 0, m, 0, hp5, s5 _ _ hp4, by omega, by omega, m0, m1, by omega, by omega⟩
def spOf : Sp := fun vs H Q _ => ∃ (b c t : Addr) (xs : List V) (k : Nat), vs = [.ref b, .ref t] ∧ H t = some (.lst xs) ∧ isBag (.lst xs) = false ∧ xs ≠ [] ∧ xs.length ≤ 1000 ∧ k ≤ 1000000 ∧ Bag b c k H ∧ ∀ x H', x ∈ xs → Bag b c (k + 1) H' → KpB H H' → Q x H'
theorem ok_of (T : Txt K mg) (c_law_draw : C8.Cal P w K mg base 1 "_law_draw" spDraw []) : C8.Cal P w K mg base 2 "_law_of" spOf [] := by
  have S : FnScope ["_law_bag_here", "_law_things"] ["_law_bag_here", "_law_things"] (C8.fnScope (top 57)) := C8.fnScope_by (by decide +kernel)
  refine cal_of T.f_law_of T.g_law_of S (fun _ _ _ _ _ _ us hl => match us, hl with | [_, _], _ => rfl) (fun vs H Q E h => ?_) (fun cdv A outer s H vs Q E hr h => ?_)
  · obtain ⟨b, c, t, xs, k, rfl, _⟩ := h
    rfl
  · obtain ⟨b, c, t, xs, k, rfl, ht, nb, ne, hl, hk, hb, h⟩ := h
    refine ⟨_, (pss_one (ps_ret (pe_ix (ix_listK (K := K) rfl) (pv 1) (C8.pe_c c_law_draw hr (by decide) rfl (pa_cons (pv 0) (pa_cons (pe_callB call_len_seq rfl T.z_len (by decide +kernel) (pa_cons (pv 1) pa_nil)) pa_nil))) (fun _ _ => rfl)))), ?_⟩
    have lp := List.length_pos_iff.mpr ne
    walk_at "q"
    refine ⟨t, xs, rfl, .inl (SqL.of ht), ?_⟩
    walk_at "q"
    refine ⟨b, c, _, k, rfl, by omega, by omega, hk, hb, fun d H' d0 d1 hb' kb => ?_⟩
    obtain ⟨d, rfl⟩ := Int.eq_ofNat_of_zero_le d0
    have dl : d < xs.length := by omega
    exact ⟨t, xs, _, xs[d], rfl, rfl, SqL.of (kb _ _ ht nb), atI_nat (List.getElem?_eq_getElem dl), h _ _ (List.getElem_mem dl) hb' kb⟩
def spGreat : Sp := fun vs H Q _ => ∃ (b c : Addr) (m : Int) (k : Nat), vs = [.ref b, .int m] ∧ 0 < m ∧ k ≤ 900000 ∧ Bag b c k H ∧ ∀ d H', 0 ≤ d → d < m → Bag b c (k + 60) H' → KpB H H' → Q (.int d) H'
theorem ok_great (T : Txt K mg) (c_law_draw : C8.Cal P w K mg base 1 "_law_draw" spDraw []) : C8.Cal P w K mg base 2 "_law_great" spGreat [] := by
  have S : FnScope ["_law_bag_here", "_law_many", "_law_found", "_law_reach", "_law_turn"] ["_law_bag_here", "_law_many"] (C8.fnScope (top 58)) := C8.fnScope_by (by decide +kernel)
  refine cal_of T.f_law_great T.g_law_great S (fun _ _ _ _ _ _ us hl => match us, hl with | [_, _], _ => rfl) (fun vs H Q E h => ?_) (fun cdv A outer s H vs Q E hr h => ?_)
  · obtain ⟨b, c, m, k, rfl, _⟩ := h
    rfl
  · obtain ⟨b, c, m, k, rfl, m0, hk, hb, h⟩ := h
    refine ⟨_, (pss_cons (ps_asg (pe_tup (pa_cons pe_int (pa_cons pe_int pa_nil))) (pg_tupK (K := K) (n := 2) rfl rfl (pgs_cons (pg_name (i := 2) S.nd rfl (Or.inl rfl)) (pgs_cons (pg_name (i := 3) S.nd rfl (Or.inl rfl)) pgs_nil))))
      (pss_cons (ps_for PassesOwn.never rfl (pi_range1 rfl T.z_range (pa_cons pe_int pa_nil)) (pg_name (i := 4) S.nd rfl (Or.inl rfl)) (pss_one (ps_if (pt_cmpR op_lt (pv 3) (pv 1) (nomark _)) (pss_cons (ps_set (i := 2) S.nd rfl (Or.inl rfl) (pe_op op_add (pe_op op_mul (pv 2) pe_int) (C8.pe_c c_law_draw hr (by decide) rfl (pa_cons (pv 0) (pa_cons pe_int pa_nil)))))
      (pss_one (ps_set (i := 3) S.nd rfl (Or.inl rfl) (pe_op op_mul (pv 3) pe_int)))) pss_nil)))
      (pss_one (ps_ret (pe_op op_mod (pe_callTy call_int1 rfl T.z_int (by decide +kernel) (pa_cons (pv 2) pa_nil)) (pv 1)))))), ?_⟩
    walk_at "q"
    refine ⟨by decide, ?_⟩
    walk_at "nw"
    rename_i pt npt H0 s0 hpt
    walk_at "q"
    refine ⟨pt, _, rfl, SqT.of hpt, rfl, ?_⟩
    walk_at "q"
    refine ⟨_, rfl, by decide, by decide, ?_⟩
    refine for_it (walk_range (n := 60)) (fun i σ H' => ∃ (x r : Int) (v4 : Option V), σ = [some (.ref b), some (.int m), some (.int x), some (.int r), v4] ∧ Bag b c (k + i) H' ∧ KpB H H') ⟨_, _, _, rfl, hb.same s0, KpB.of s0⟩ (fun _ _ _ _ _ => trivial) ?_ ?_
    · rintro i v σ H2 H3 hi ⟨x, r, v4, rfl, hb2, k2⟩ ⟨rfl, rfl⟩
      walk_at "q"
      refine r_ite (fun lt => ?_) fun ge => ?_
      · walk_at "q"
        refine r_I (.inr ⟨by decide, by decide⟩) ?_
        walk_at "q"
        refine ⟨b, c, _, k + i, rfl, by decide, by decide, by omega, hb2, fun d H' d0 d1 hb' kb => ?_⟩
        walk_at "q"
        refine r_I (.inr ⟨by decide, by decide⟩) ?_
        walk_at "q"
        exact ⟨_, _, _, rfl, hb', k2.trans kb⟩
      · walk_at "q"
        exact ⟨_, _, _, rfl, hb2.mono (by omega), k2⟩
    · rintro σ H2 ⟨x, r, v4, rfl, hb2, k2⟩
      walk_at "q"
      refine .inl ⟨_, rfl, ?_⟩
      walk_at "q"
      refine r_I m0 ?_
      exact h _ _ (Int.emod_nonneg _ (by omega)) (Int.emod_lt_of_pos _ m0) hb2 k2
def spAny : Sp := fun vs H Q _ => ∃ (b c : Addr) (k : Nat), vs = [.ref b] ∧ k ≤ 800000 ∧ Bag b c k H ∧ ∀ x H', Bag b c (k + 61) H' → KpB H H' → Q (.int x) H'
theorem ok_any (T : Txt K mg) (c_law_draw : C8.Cal P w K mg base 1 "_law_draw" spDraw []) (c_law_great : C8.Cal P w K mg base 2 "_law_great" spGreat []) : C8.Cal P w K mg base 3 "_law_any" spAny [] := by
  have S : FnScope ["_law_bag_here", "_law_way", "_law_found"] ["_law_bag_here"] (C8.fnScope (top 59)) := C8.fnScope_by (by decide +kernel)
  refine cal_of T.f_law_any T.g_law_any S (fun _ _ _ _ _ _ us hl => match us, hl with | [_], _ => rfl) (fun vs H Q E h => ?_) (fun cdv A outer s H vs Q E hr h => ?_)
  · obtain ⟨b, c, k, rfl, _⟩ := h
    rfl
  · obtain ⟨b, c, k, rfl, hk, hb, h⟩ := h
    refine ⟨_, (pss_cons (ps_set (i := 1) S.nd rfl (Or.inl rfl) (C8.pe_c c_law_draw hr (by decide) rfl (pa_cons (pv 0) (pa_cons pe_int pa_nil))))
      (pss_cons (ps_if (pt_cmpR op_eq (pv 1) pe_int (nomark _)) (pss_one (ps_ret (pe_op op_sub (C8.pe_c c_law_draw hr (by decide) rfl (pa_cons (pv 0) (pa_cons pe_int pa_nil))) pe_int))) pss_nil)
      (pss_cons (ps_if (pt_cmpR op_eq (pv 1) pe_int (nomark _)) (pss_one (ps_ret (C8.pe_c c_law_great hr (by decide) rfl (pa_cons (pv 0) (pa_cons (pe_op op_powW pe_int pe_int) pa_nil))))) pss_nil)
      (pss_cons (ps_set (i := 2) S.nd rfl (Or.inl rfl) (C8.pe_c c_law_great hr (by decide) rfl (pa_cons (pv 0) (pa_cons (pe_op op_powW pe_int pe_int) pa_nil))))
      (pss_one (ps_ret (pe_ifExp (pt_cmpR op_eq (pv 1) pe_int (nomark _)) (pv 2) (pe_un un_neg (pv 2))))))))), ?_⟩
    walk_at "q"
    refine ⟨b, c, _, k, rfl, by decide, by decide, by omega, hb, fun d H1 d0 d1 hb1 k1 => ?_⟩
    walk_at "q"
    refine r_ite (fun e => ?_) fun e => ?_
    · walk_at "q"
      refine ⟨b, c, _, k + 1, rfl, by decide, by decide, by omega, hb1, fun d' H2 _ _ hb2 k2 => ?_⟩
      walk_at "q"
      exact h _ _ (hb2.mono (by omega)) (k1.trans k2)
    · walk_at "q"
      refine r_ite (fun e => ?_) fun e => ?_
      · walk_at "q"
        refine r_I (powW_ok (n := 4) (m := 20) (by decide) (by decide) rfl (by decide)) ?_
        walk_at "q"
        refine ⟨b, c, _, k + 1, rfl, (by decide), by omega, hb1, fun d' H2 _ _ hb2 k2 => ?_⟩
        exact h _ _ hb2 (k1.trans k2)
      · walk_at "q"
        refine r_I (powW_ok (n := 4) (m := 60) (by decide) (by decide) rfl (by decide)) ?_
        walk_at "q"
        refine ⟨b, c, _, k + 1, rfl, (by decide), by omega, hb1, fun d' H2 _ _ hb2 k2 => ?_⟩
        walk_at "q"
        refine r_ite (fun e => ?_) fun e => ?_
        · walk_at "q"
          exact h _ _ hb2 (k1.trans k2)
        · walk_at "q"
          exact h _ _ hb2 (k1.trans k2)
end
end K20

set_option Elab.async false
set_option linter.all false
set_option maxRecDepth 100000
set_option maxHeartbeats 4000000
namespace K20
open PySem PySem.Spec PyProof.Rows L2
local macro_rules | `(tactic| walk_at "q1") => `(tactic| first
  | with_reducible refine r_seq ?_ | with_reducible refine r_asg ?_ | with_reducible refine r_name ?_ | with_reducible refine r_ret ?_ | with_reducible refine r_ifS ?_ | with_reducible refine r_next ?_ | with_reducible refine r_drop ?_
  | ((with_reducible show tVar _ _ _ _); refine ⟨_, rfl, ?_⟩) | with_reducible refine r_c ?_ | with_reducible refine r_op ?_ | with_reducible refine r_un ?_ | with_reducible refine r_I0 ?_ | with_reducible refine r_U ?_
  | with_reducible refine r_eqI ?_ | with_reducible refine r_neI ?_ | with_reducible refine r_neB ?_ | with_reducible refine r_cb ?_ | with_reducible refine r_cons ?_ | with_reducible refine r_nil ?_ | with_reducible refine r_test ?_ | with_reducible refine r_tB ?_
  | with_reducible refine r_bl ?_ | with_reducible refine r_not ?_ | with_reducible refine r_notV ?_ | with_reducible refine r_and ?_ | with_reducible refine r_or ?_ | with_reducible refine r_andV ?_ | with_reducible refine r_orV ?_ | with_reducible refine r_if ?_
  | with_reducible refine r_T ?_ | with_reducible refine r_F ?_ | with_reducible refine r_NT ?_ | with_reducible refine r_NF ?_ | with_reducible refine r_call ?_ | with_reducible refine r_meth ?_ | with_reducible refine r_int1 ?_ | with_reducible refine r_fld ?_
  | with_reducible refine r_tup ?_ | with_reducible refine r_lst ?_ | with_reducible refine r_par ?_ | with_reducible refine r_par3 ?_ | with_reducible refine r_two ?_ | with_reducible refine r_three ?_ | with_reducible refine r_abs ?_ | with_reducible refine r_max ?_
  | with_reducible refine r_cut ?_ | with_reducible refine r_callS ?_ | with_reducible refine r_zipA ?_ | with_reducible refine r_isN ?_ | with_reducible refine r_lc ?_ | with_reducible refine r_lc2 ?_ | with_reducible refine r_mkB ?_ | with_reducible refine r_for ?_ | with_reducible refine r_iList ?_ | with_reducible refine r_iTup ?_ | with_reducible refine r_revL ?_ | with_reducible refine r_star ?_ | with_reducible refine r_bits ?_ | with_reducible refine r_iRng ?_ | with_reducible refine r_iEnum ?_ | with_reducible refine r_iZip ?_ | with_reducible refine r_sub ?_ | with_reducible refine r_sfld ?_ | with_reducible refine r_bm ?_
  | with_reducible refine r_methK ?_ | with_reducible refine r_methS ?_ | with_reducible refine r_make ?_ | with_reducible refine r_mod ?_ | with_reducible refine r_gtup ?_ | with_reducible refine r_gcons ?_ | with_reducible refine r_gnil ?_ | with_reducible refine r_slc ?_ | with_reducible refine r_part ?_ | with_reducible refine r_noPart ?_)
local macro_rules | `(tactic| walk_at "nw") => `(tactic| (intro p hp; generalize hu : upd _ p _ = H1; obtain ⟨s1, hp1⟩ := nwx hp hu; clear hu))
local macro_rules | `(tactic| walk_at "q") => `(tactic| repeat walk_at "q1")
section
variable {P : Program} {w : World} {K : Fr} {mg : Str → Option Value} {base : Heap}
/-! ### lists that are drawn -/
def spSpot : Sp := fun vs H Q _ => ∃ (b c : Addr) (q : Int) (k : Nat), vs = [.ref b, .int q] ∧ 0 < q ∧ k ≤ 800000 ∧ Bag b c k H ∧ ∀ x H', Bag b c (k + 61) H' → KpB H H' → Q (.int x) H'
theorem ok_spot (T : Txt K mg) (c_law_draw : C8.Cal P w K mg base 1 "_law_draw" spDraw []) (c_law_great : C8.Cal P w K mg base 2 "_law_great" spGreat []) : C8.Cal P w K mg base 3 "_law_spot" spSpot [] := by
  have S : FnScope ["_law_bag_here", "_law_q", "_law_way"] ["_law_bag_here", "_law_q"] (C8.fnScope (top 60)) := C8.fnScope_by (by decide +kernel)
  refine cal_of T.f_law_spot T.g_law_spot S (fun _ _ _ _ _ _ us hl => match us, hl with | [_, _], _ => rfl) (fun vs H Q E h => ?_) (fun cdv A outer s H vs Q E hr h => ?_)
  · obtain ⟨b, c, q, k, rfl, _⟩ := h
    rfl
  · obtain ⟨b, c, q, k, rfl, q0, hk, hb, h⟩ := h
    refine ⟨_, (pss_cons (ps_set (i := 2) S.nd rfl (Or.inl rfl) (C8.pe_c c_law_draw hr (by decide) rfl (pa_cons (pv 0) (pa_cons pe_int pa_nil))))
      (pss_cons (ps_if (pt_cmpR op_lt (pv 2) pe_int (nomark _)) (pss_one (ps_ret (C8.pe_c c_law_great hr (by decide) rfl (pa_cons (pv 0) (pa_cons (pv 1) pa_nil))))) pss_nil)
      (pss_one (ps_ret (pe_ix (ix_listK (K := K) rfl) (pe_lst (pa_cons pe_int (pa_cons (pe_op op_sub (pv 1) pe_int) (pa_cons (pe_op op_fdiv (pv 1) pe_int) (pa_cons (pe_op op_fdiv (pv 1) pe_int) pa_nil))))) (pe_op op_sub (pv 2) pe_int) (fun _ _ => rfl)))))), ?_⟩
    walk_at "q"
    refine ⟨b, c, _, k, rfl, by decide, by decide, by omega, hb, fun d H1 d0 d1 hb1 k1 => ?_⟩
    walk_at "q"
    refine r_ite (fun lt => ?_) fun ge => ?_
    · walk_at "q"
      exact ⟨b, c, q, k + 1, rfl, q0, by omega, hb1, fun d' H2 _ _ hb2 k2 => h _ _ hb2 (k1.trans k2)⟩
    · walk_at "q"
      refine r_I ⟨by decide, by decide⟩ ?_
      walk_at "q"
      refine r_I ⟨by decide, by decide⟩ ?_
      walk_at "q"
      refine ⟨(show (4 : Nat) ≤ sizeLine by decide), fun p np => ?_⟩
      walk_at "q"
      obtain ⟨j, rfl⟩ : ∃ j : Nat, d = (j : Int) + 6 := ⟨(d - 6).toNat, by omega⟩
      have hj : j < 4 := by omega
      have hx : ∃ x : Int, ([.int 0, .int (q - 1), .int (q / 2), .int (q / 8)] : List V)[j]? = some (.int x) := by
        match j, hj with
        | 0, _ => exact ⟨_, rfl⟩
        | 1, _ => exact ⟨_, rfl⟩
        | 2, _ => exact ⟨_, rfl⟩
        | 3, _ => exact ⟨_, rfl⟩
      obtain ⟨x, hx⟩ := hx
      refine ⟨p, _, _, _, rfl, rfl, SqL.of upd_same, by rw [show (j : Int) + 6 - 6 = (j : Int) by omega]; exact atI_nat hx, ?_⟩
      exact h _ _ ((hb1.mono (by omega)).upd (hb1.off np)) (k1.trans (KpB.of (same_upd np)))
def spBits2 : Sp := fun vs H Q _ => ∃ (b c : Addr) (m k : Nat), vs = [.ref b, .int m] ∧ m ≤ 100 ∧ k ≤ 800000 ∧ Bag b c k H ∧ ∀ r ns H', ns.length = m → (∀ x ∈ ns, 0 ≤ x ∧ x ≤ 1) → H' r = some (intL ns) → Bag b c (k + 101) H' → KpB H H' → Q (.ref r) H'
theorem rep_ints (m : Nat) (x : Int) : (List.replicate m [V.int x]).flatten = (List.replicate m x).map V.int := by
  induction m with
  | zero => rfl
  | succ m ih => rw [List.replicate_succ, List.flatten_cons, ih, List.replicate_succ, List.map_cons]; rfl
theorem ok_bits2 (T : Txt K mg) (c_law_draw : C8.Cal P w K mg base 1 "_law_draw" spDraw []) : C8.Cal P w K mg base 2 "_law_bits" spBits2 [] := by
  have S : FnScope ["_law_bag_here", "_law_many", "_law_way", "_law_k"] ["_law_bag_here", "_law_many"] (C8.fnScope (top 61)) := C8.fnScope_by (by decide +kernel)
  refine cal_of T.f_law_bits T.g_law_bits S (fun _ _ _ _ _ _ us hl => match us, hl with | [_, _], _ => rfl) (fun vs H Q E h => ?_) (fun cdv A outer s H vs Q E hr h => ?_)
  · obtain ⟨b, c, m, k, rfl, _⟩ := h
    rfl
  · obtain ⟨b, c, m, k, rfl, hm, hk, hb, h⟩ := h
    refine ⟨_, (pss_cons (ps_set (i := 2) S.nd rfl (Or.inl rfl) (C8.pe_c c_law_draw hr (by decide) rfl (pa_cons (pv 0) (pa_cons pe_int pa_nil))))
      (pss_cons (ps_if (pt_cmpR op_lt (pv 2) pe_int (nomark _)) (pss_one (ps_ret (pe_op op_rep (pe_lst (pa_cons (pv 2) pa_nil)) (pv 1)))) pss_nil)
      (pss_one (ps_ret (pe_lc (own := [("_law_k", 3)]) rfl S.nd (pi_range1 rfl T.z_range (pa_cons (pv 1) pa_nil)) (blkOk_by (N := ["_law_bag_here", "_law_many", "_law_way", "_law_k"]) (sc := C8.fnScope (top 61)) (by decide +kernel)) (fun _ _ _ _ _ => (pg_name (i := 3) S.nd rfl (Or.inl rfl))) (fun _ _ _ _ _ => pts_nil) (fun _ _ _ _ _ => (C8.pe_c c_law_draw hr (by decide) rfl (pa_cons (pv 0) (pa_cons pe_int pa_nil))))))))), ?_⟩
    walk_at "q"
    refine ⟨b, c, _, k, rfl, by decide, by decide, by omega, hb, fun d H1 d0 d1 hb1 k1 => ?_⟩
    walk_at "q"
    refine r_ite (fun lt => ?_) fun ge => ?_
    · walk_at "q"
      refine ⟨(show (1 : Nat) ≤ sizeLine by decide), ?_⟩
      walk_at "nw"
      rename_i p np H2 s2 hp
      walk_at "q"
      refine ⟨p, _, _, rfl, rfl, hp, by omega, by omega, Nat.le_trans (m := 1000) (by simp; omega) (by decide), fun r nr => ?_⟩
      rw [Int.toNat_natCast, rep_ints]
      refine h r (List.replicate m d) _ (List.length_replicate ..) (fun x hx => ?_) upd_same (((hb1.same s2).same (same_upd nr)).mono (by omega)) ((k1.trans (KpB.of s2)).trans (KpB.of (same_upd nr)))
      rw [List.eq_of_mem_replicate hx]
      omega
    · walk_at "q"
      refine ⟨_, rfl, by omega, by omega, ?_⟩
      intro D hD
      have off := hb1.off hD
      refine lc_inv (walk_range (n := (m : Int).toNat)) hD (fun i acc H' => ∃ ns : List Int, acc = ns.map V.int ∧ (∀ x ∈ ns, 0 ≤ x ∧ x ≤ 1) ∧ Bag b c (k + 1 + i) H' ∧ KpB H1 H') ⟨[], rfl, (fun x hx => by cases hx), hb1, KpB.refl _⟩ (fun i acc H' o ⟨ns, e, p, g, kk⟩ => ⟨ns, e, p, g.upd off, kk.updN hD⟩) (fun _ _ _ _ => trivial) (by omega) ?_ ?_
      · rintro i acc v H4 H5 hi hla ⟨ns, rfl, p, g, kk⟩ hD2 ⟨rfl, rfl⟩ Kc kc
        walk_at "q"
        refine ⟨rfl, ?_⟩
        walk_at "q"
        refine ⟨b, c, _, k + 1 + i, rfl, by decide, by decide, by omega, g, fun d' H6 e0 e1 g6 k6 => ?_⟩
        refine kc _ _ (k6 _ _ hD2 (isBag_intL ns)) ⟨ns ++ [d'], by rw [List.map_append]; rfl, fun x hx => ?_, g6, kk.trans k6⟩
        rcases List.mem_append.mp hx with q | q
        · exact p x q
        · rw [List.mem_singleton.mp q]; omega
      · rintro acc H4 hla ⟨ns, rfl, p, g, kk⟩ hD2
        rw [List.length_map] at hla
        exact h D ns H4 (by omega) p hD2 (g.mono (by omega)) (k1.trans kk)
def spNums : Sp := fun vs H Q _ => ∃ (b c : Addr) (k : Nat), vs = [.ref b] ∧ k ≤ 700000 ∧ Bag b c k H ∧ ∀ r ns H', ns ≠ [] → ns.length ≤ 1000 → H' r = some (intL ns) → Bag b c (k + 1000) H' → KpB H H' → Q (.ref r) H'
theorem ok_numbers (T : Txt K mg) (c_law_draw : C8.Cal P w K mg base 1 "_law_draw" spDraw []) (c_law_any : C8.Cal P w K mg base 3 "_law_any" spAny []) : C8.Cal P w K mg base 4 "_law_numbers" spNums [] := by
  have S : FnScope ["_law_bag_here", "_law_k"] ["_law_bag_here"] (C8.fnScope (top 69)) := C8.fnScope_by (by decide +kernel)
  refine cal_of T.f_law_numbers T.g_law_numbers S (fun _ _ _ _ _ _ us hl => match us, hl with | [_], _ => rfl) (fun vs H Q E h => ?_) (fun cdv A outer s H vs Q E hr h => ?_)
  · obtain ⟨b, c, k, rfl, _⟩ := h
    rfl
  · obtain ⟨b, c, k, rfl, hk, hb, h⟩ := h
    refine ⟨_, (pss_cons (ps_if (pt_cmpR op_eq (C8.pe_c c_law_draw hr (by decide) rfl (pa_cons (pv 0) (pa_cons pe_int pa_nil))) pe_int (nomark _)) (pss_one (ps_ret (pe_lst (pa_cons pe_int pa_nil)))) pss_nil)
      (pss_one (ps_ret (pe_lc (own := [("_law_k", 1)]) rfl S.nd (pi_range1 rfl T.z_range (pa_cons (pe_op op_add pe_int (C8.pe_c c_law_draw hr (by decide) rfl (pa_cons (pv 0) (pa_cons pe_int pa_nil)))) pa_nil)) (blkOk_by (N := ["_law_bag_here", "_law_k"]) (sc := C8.fnScope (top 69)) (by decide +kernel)) (fun _ _ _ _ _ => (pg_name (i := 1) S.nd rfl (Or.inl rfl))) (fun _ _ _ _ _ => pts_nil) (fun _ _ _ _ _ => (C8.pe_c c_law_any hr (by decide) rfl (pa_cons (pv 0) pa_nil))))))), ?_⟩
    walk_at "q"
    refine ⟨b, c, _, k, rfl, by decide, by decide, by omega, hb, fun d H1 d0 d1 hb1 k1 => ?_⟩
    walk_at "q"
    refine r_ite (fun lt => ?_) fun ge => ?_
    · walk_at "q"
      refine ⟨(show (1 : Nat) ≤ sizeLine by decide), fun p np => ?_⟩
      exact h p [0] _ (by simp) (by simp) upd_same ((hb1.same (same_upd np)).mono (by omega)) (k1.trans (KpB.of (same_upd np)))
    · walk_at "q"
      refine ⟨b, c, _, k + 1, rfl, by decide, by decide, by omega, hb1, fun d' H2 e0 e1 hb2 k2 => ?_⟩
      walk_at "q"
      refine ⟨_, rfl, by omega, by omega, ?_⟩
      intro D hD
      have off := hb2.off hD
      refine lc_inv (walk_range (n := (1 + d').toNat)) hD (fun i acc H' => ∃ ns : List Int, acc = ns.map V.int ∧ Bag b c (k + 2 + 61 * i) H' ∧ KpB H2 H') ⟨[], rfl, hb2, KpB.refl _⟩ (fun i acc H' o ⟨ns, e, g, kk⟩ => ⟨ns, e, g.upd off, kk.updN hD⟩) (fun _ _ _ _ => trivial) (by omega) ?_ ?_
      · rintro i acc v H4 H5 hi hla ⟨ns, rfl, g, kk⟩ hD2 ⟨rfl, rfl⟩ Kc kc
        walk_at "q"
        refine ⟨rfl, ?_⟩
        walk_at "q"
        refine ⟨b, c, _, rfl, by omega, g, fun x H6 g6 k6 => ?_⟩
        exact kc _ _ (k6 _ _ hD2 (isBag_intL ns)) ⟨ns ++ [x], by rw [List.map_append]; rfl, g6.mono (by omega), kk.trans k6⟩
      · rintro acc H4 hla ⟨ns, rfl, g, kk⟩ hD2
        rw [List.length_map] at hla
        refine h D ns H4 (fun e => ?_) (by omega) hD2 (g.mono (by omega)) (k1.trans (k2.trans kk))
        rw [e] at hla
        simp at hla
        omega
def spNois : Sp := fun vs H Q _ => ∃ (b c : Addr) (e k : Nat), vs = [.ref b, .int e] ∧ e ≤ 1000 ∧ k ≤ 700000 ∧ Bag b c k H ∧ ∀ r ns H', ns ≠ [] → ns.length ≤ 1000 → H' r = some (intL ns) → Bag b c (k + 1000) H' → KpB H H' → Q (.ref r) H'
theorem ok_noises (T : Txt K mg) (c_law_draw : C8.Cal P w K mg base 1 "_law_draw" spDraw []) (c_law_any : C8.Cal P w K mg base 3 "_law_any" spAny []) : C8.Cal P w K mg base 4 "_law_noises" spNois [] := by
  have S : FnScope ["_law_bag_here", "_law_e", "_law_way", "_law_k"] ["_law_bag_here", "_law_e"] (C8.fnScope (top 68)) := C8.fnScope_by (by decide +kernel)
  refine cal_of T.f_law_noises T.g_law_noises S (fun _ _ _ _ _ _ us hl => match us, hl with | [_, _], _ => rfl) (fun vs H Q E h => ?_) (fun cdv A outer s H vs Q E hr h => ?_)
  · obtain ⟨b, c, e, k, rfl, _⟩ := h
    rfl
  · obtain ⟨b, c, e, k, rfl, he, hk, hb, h⟩ := h
    refine ⟨_, (pss_cons (ps_set (i := 2) S.nd rfl (Or.inl rfl) (C8.pe_c c_law_draw hr (by decide) rfl (pa_cons (pv 0) (pa_cons pe_int pa_nil))))
      (pss_cons (ps_if (pt_cmpR op_lt (pv 2) pe_int (nomark _)) (pss_one (ps_ret (pe_ix (ix_listK (K := K) rfl) (pe_lst (pa_cons (pe_lst (pa_cons (pv 1) pa_nil)) (pa_cons (pe_lst (pa_cons (pe_un un_neg (pv 1)) pa_nil)) (pa_cons (pe_lst (pa_cons (pv 1) (pa_cons (pe_un un_neg (pv 1)) (pa_cons (pv 1) pa_nil)))) (pa_cons (pe_lst (pa_cons pe_int (pa_cons (pe_op op_sub (pe_un un_neg (pv 1)) pe_int) (pa_cons (pe_op op_add (pv 1) pe_int) pa_nil)))) pa_nil))))) (pv 2) (fun _ _ => rfl)))) pss_nil)
      (pss_one (ps_ret (pe_op op_cat (pe_lc (own := [("_law_k", 3)]) rfl S.nd (pi_range1 rfl T.z_range (pa_cons (pe_op op_add pe_int (C8.pe_c c_law_draw hr (by decide) rfl (pa_cons (pv 0) (pa_cons pe_int pa_nil)))) pa_nil)) (blkOk_by (N := ["_law_bag_here", "_law_e", "_law_way", "_law_k"]) (sc := C8.fnScope (top 68)) (by decide +kernel)) (fun _ _ _ _ _ => (pg_name (i := 3) S.nd rfl (Or.inl rfl))) (fun _ _ _ _ _ => pts_nil) (fun _ _ _ _ _ => (pe_op op_sub (pe_op op_sub (C8.pe_c c_law_draw hr (by decide) rfl (pa_cons (pv 0) (pa_cons (pe_op op_add (pe_op op_mul pe_int (pv 1)) pe_int) pa_nil))) (pv 1)) pe_int))) (pe_op op_rep (pe_lst (pa_cons (C8.pe_c c_law_any hr (by decide) rfl (pa_cons (pv 0) pa_nil)) pa_nil)) (pe_op op_sub (pv 2) pe_int))))))), ?_⟩
    walk_at "q"
    refine ⟨b, c, _, k, rfl, by decide, by decide, by omega, hb, fun d H1 d0 d1 hb1 k1 => ?_⟩
    walk_at "q"
    refine r_ite (fun lt => ?_) fun ge => ?_
    · walk_at "q"
      refine ⟨(show (1 : Nat) ≤ sizeLine by decide), ?_⟩
      walk_at "nw"
      rename_i p1 n1 H2 s2 hp1
      walk_at "q"
      refine ⟨(show (1 : Nat) ≤ sizeLine by decide), ?_⟩
      walk_at "nw"
      rename_i p2 n2 H3 s3 hp2
      walk_at "q"
      refine ⟨(show (3 : Nat) ≤ sizeLine by decide), ?_⟩
      walk_at "nw"
      rename_i p3 n3 H4 s4 hp3
      walk_at "q"
      refine ⟨(show (3 : Nat) ≤ sizeLine by decide), ?_⟩
      walk_at "nw"
      rename_i p4 n4 H5 s5 hp4
      walk_at "q"
      refine ⟨(show (4 : Nat) ≤ sizeLine by decide), ?_⟩
      walk_at "nw"
      rename_i p5 n5 H6 s6 hp5
      walk_at "q"
      have s16 := s2.trans (s3.trans (s4.trans (s5.trans s6)))
      have g6 := (hb1.same s16).mono (show k + 1 ≤ k + 1000 by omega)
      have k6 := k1.trans (KpB.of s16)
      obtain ⟨j, rfl⟩ := Int.eq_ofNat_of_zero_le d0
      have hj : j < 4 := by omega
      match j, hj with
      | 0, _ => exact ⟨p5, _, 0, _, rfl, rfl, SqL.of hp5, rfl, h p1 [(e : Int)] H6 (by simp) (by simp) (s6 _ _ (s5 _ _ (s4 _ _ (s3 _ _ hp1)))) g6 k6⟩
      | 1, _ => exact ⟨p5, _, 1, _, rfl, rfl, SqL.of hp5, rfl, h p2 [-(e : Int)] H6 (by simp) (by simp) (s6 _ _ (s5 _ _ (s4 _ _ hp2))) g6 k6⟩
      | 2, _ => exact ⟨p5, _, 2, _, rfl, rfl, SqL.of hp5, rfl, h p3 [(e : Int), -(e : Int), (e : Int)] H6 (by simp) (by simp) (s6 _ _ (s5 _ _ hp3)) g6 k6⟩
      | 3, _ => exact ⟨p5, _, 3, _, rfl, rfl, SqL.of hp5, rfl, h p4 [0, -(e : Int) - 5, (e : Int) + 5] H6 (by simp) (by simp) (s6 _ _ hp4) g6 k6⟩
    · walk_at "q"
      refine ⟨b, c, _, k + 1, rfl, by decide, by decide, by omega, hb1, fun d' H2 e0 e1 hb2 k2 => ?_⟩
      walk_at "q"
      refine ⟨_, rfl, by omega, by omega, ?_⟩
      intro D hD
      have off := hb2.off hD
      refine lc_inv (walk_range (n := (1 + d').toNat)) hD (fun i acc H' => ∃ ns : List Int, acc = ns.map V.int ∧ Bag b c (k + 2 + i) H' ∧ KpB H2 H') ⟨[], rfl, hb2, KpB.refl _⟩ (fun i acc H' o ⟨ns, e, g, kk⟩ => ⟨ns, e, g.upd off, kk.updN hD⟩) (fun _ _ _ _ => trivial) (by omega) ?_ ?_
      · rintro i acc v H4 H5 hi hla ⟨ns, rfl, g, kk⟩ hD2 ⟨rfl, rfl⟩ Kc kc
        walk_at "q"
        refine ⟨rfl, ?_⟩
        walk_at "q"
        refine r_I (.inl ⟨by decide, by decide⟩) ?_
        walk_at "q"
        refine ⟨b, c, _, k + 2 + i, rfl, by omega, by omega, by omega, g, fun x H6 _ _ g6 k6 => ?_⟩
        walk_at "q"
        exact kc _ _ (k6 _ _ hD2 (isBag_intL ns)) ⟨ns ++ [x - e - 3], by rw [List.map_append]; rfl, g6, kk.trans k6⟩
      · rintro acc H4 hla ⟨ns, rfl, g, kk⟩ hD2
        rw [List.length_map] at hla
        walk_at "q"
        refine ⟨b, c, _, rfl, by omega, g, fun x H6 g6 k6 => ?_⟩
        walk_at "q"
        refine ⟨(show (1 : Nat) ≤ sizeLine by decide), ?_⟩
        walk_at "nw"
        rename_i p7 n7 H7 s7 hp7
        walk_at "q"
        refine ⟨p7, _, _, rfl, rfl, hp7, by omega, by omega, Nat.le_trans (m := 1000) (by simp; omega) (by decide), fun r nr => ?_⟩
        rw [rep_ints]
        generalize hu : upd H7 r _ = H8
        obtain ⟨s8, hr8⟩ := nwx nr hu
        clear hu
        have hD8 := s8 _ _ (s7 _ _ (k6 _ _ hD2 (isBag_intL ns)))
        refine ⟨D, r, _, _, rfl, rfl, hD8, hr8, Nat.le_trans (m := 1000) (by simp; omega) (by decide), fun z nz => ?_⟩
        refine h z (ns ++ List.replicate (d - 4).toNat x) _ (fun e => ?_) (by simp; omega) (by rw [upd_same]; simp [intL]) ((((g6.same s7).same s8).same (same_upd nz)).mono (by omega)) (((((k1.trans k2).trans kk).trans k6).trans (KpB.of s7)).trans ((KpB.of s8).trans (KpB.of (same_upd nz))))
        have := congrArg List.length e
        rw [List.length_append, List.length_nil] at this
        omega
def spRow : Sp := fun vs H Q _ => ∃ (b c : Addr) (m k : Nat) (q : Int), vs = [.ref b, .int m, .int q] ∧ 0 < q ∧ q ≤ 2 ^ 128 ∧ m ≤ 100 ∧ k ≤ 700000 ∧ Bag b c k H ∧ ∀ r ns H', ns.length = m → H' r = some (intL ns) → Bag b c (k + 7000) H' → KpB H H' → Q (.ref r) H'
theorem ok_row (T : Txt K mg) (c_law_draw : C8.Cal P w K mg base 1 "_law_draw" spDraw []) (c_law_any : C8.Cal P w K mg base 3 "_law_any" spAny []) (c_law_spot : C8.Cal P w K mg base 3 "_law_spot" spSpot []) : C8.Cal P w K mg base 4 "_law_row" spRow [] := by
  have S : FnScope ["_law_bag_here", "_law_many", "_law_q", "_law_way", "_law_k"] ["_law_bag_here", "_law_many", "_law_q"] (C8.fnScope (top 78)) := C8.fnScope_by (by decide +kernel)
  refine cal_of T.f_law_row T.g_law_row S (fun _ _ _ _ _ _ us hl => match us, hl with | [_, _, _], _ => rfl) (fun vs H Q E h => ?_) (fun cdv A outer s H vs Q E hr h => ?_)
  · obtain ⟨b, c, m, k, q, rfl, _⟩ := h
    rfl
  · obtain ⟨b, c, m, k, q, rfl, q0, q1, hm, hk, hb, h⟩ := h
    refine ⟨_, (pss_cons (ps_set (i := 3) S.nd rfl (Or.inr rfl) (C8.pe_c c_law_draw hr (by decide) rfl (pa_cons (pv 0) (pa_cons pe_int pa_nil))))
      (pss_cons (ps_if (pt_cmpR op_eq (pv 3) pe_int (nomark _)) (pss_one (ps_ret (pe_op op_rep (pe_lst (pa_cons (C8.pe_c c_law_spot hr (by decide) rfl (pa_cons (pv 0) (pa_cons (pv 2) pa_nil))) pa_nil)) (pv 1)))) pss_nil)
      (pss_cons (ps_if (pt_cmpR op_eq (pv 3) pe_int (nomark _)) (pss_one (ps_ret (pe_lc (own := [("_law_k", 4)]) rfl S.nd (pi_range1 rfl T.z_range (pa_cons (pv 1) pa_nil)) (blkOk_by (N := ["_law_bag_here", "_law_many", "_law_q", "_law_way", "_law_k"]) (sc := C8.fnScope (top 78)) (by decide +kernel)) (fun _ _ _ _ _ => (pg_name (i := 4) S.nd rfl (Or.inl rfl))) (fun _ _ _ _ _ => pts_nil) (fun _ _ _ _ _ => (C8.pe_c c_law_any hr (by decide) rfl (pa_cons (pv 0) pa_nil)))))) pss_nil)
      (pss_one (ps_ret (pe_lc (own := [("_law_k", 4)]) rfl S.nd (pi_range1 rfl T.z_range (pa_cons (pv 1) pa_nil)) (blkOk_by (N := ["_law_bag_here", "_law_many", "_law_q", "_law_way", "_law_k"]) (sc := C8.fnScope (top 78)) (by decide +kernel)) (fun _ _ _ _ _ => (pg_name (i := 4) S.nd rfl (Or.inl rfl))) (fun _ _ _ _ _ => pts_nil) (fun _ _ _ _ _ => (pe_op op_sub (C8.pe_c c_law_spot hr (by decide) rfl (pa_cons (pv 0) (pa_cons (pv 2) pa_nil))) (pe_op op_mul (pv 2) (pe_op op_sub (pv 3) pe_int)))))))))), ?_⟩
    walk_at "q"
    refine ⟨b, c, _, k, rfl, by decide, by decide, by omega, hb, fun d H1 d0 d1 hb1 k1 => ?_⟩
    walk_at "q"
    refine r_ite (fun lt => ?_) fun ge => ?_
    · walk_at "q"
      refine ⟨b, c, q, k + 1, rfl, q0, by omega, hb1, fun x H2 hb2 k2 => ?_⟩
      walk_at "q"
      refine ⟨(show (1 : Nat) ≤ sizeLine by decide), ?_⟩
      walk_at "nw"
      rename_i p np H3 s3 hp
      walk_at "q"
      refine ⟨p, _, _, rfl, rfl, hp, by omega, by omega, Nat.le_trans (m := 1000) (by simp; omega) (by decide), fun r nr => ?_⟩
      rw [Int.toNat_natCast, rep_ints]
      exact h r (List.replicate m x) _ (List.length_replicate ..) upd_same (((hb2.same s3).same (same_upd nr)).mono (by omega)) ((k1.trans (k2.trans (KpB.of s3))).trans (KpB.of (same_upd nr)))
    · walk_at "q"
      refine r_ite (fun lt => ?_) fun ge2 => ?_
      · walk_at "q"
        refine ⟨_, rfl, by omega, by omega, ?_⟩
        intro D hD
        have off := hb1.off hD
        refine lc_inv (walk_range (n := (m : Int).toNat)) hD (fun i acc H' => ∃ ns : List Int, acc = ns.map V.int ∧ Bag b c (k + 2 + 61 * i) H' ∧ KpB H1 H') ⟨[], rfl, hb1.mono (by omega), KpB.refl _⟩ (fun i acc H' o ⟨ns, e, g, kk⟩ => ⟨ns, e, g.upd off, kk.updN hD⟩) (fun _ _ _ _ => trivial) (by omega) ?_ ?_
        · rintro i acc v H4 H5 hi hla ⟨ns, rfl, g, kk⟩ hD2 ⟨rfl, rfl⟩ Kc kc
          walk_at "q"
          refine ⟨rfl, ?_⟩
          walk_at "q"
          refine ⟨b, c, _, rfl, by omega, g, fun x H6 g6 k6 => ?_⟩
          exact kc _ _ (k6 _ _ hD2 (isBag_intL ns)) ⟨ns ++ [x], by rw [List.map_append]; rfl, g6.mono (by omega), kk.trans k6⟩
        · rintro acc H4 hla ⟨ns, rfl, g, kk⟩ hD2
          rw [List.length_map] at hla
          exact h D ns H4 (by omega) hD2 (g.mono (by omega)) (k1.trans kk)
      · walk_at "q"
        refine ⟨_, rfl, by omega, by omega, ?_⟩
        intro D hD
        have off := hb1.off hD
        refine lc_inv (walk_range (n := (m : Int).toNat)) hD (fun i acc H' => ∃ ns : List Int, acc = ns.map V.int ∧ Bag b c (k + 2 + 61 * i) H' ∧ KpB H1 H') ⟨[], rfl, hb1.mono (by omega), KpB.refl _⟩ (fun i acc H' o ⟨ns, e, g, kk⟩ => ⟨ns, e, g.upd off, kk.updN hD⟩) (fun _ _ _ _ => trivial) (by omega) ?_ ?_
        · rintro i acc v H4 H5 hi hla ⟨ns, rfl, g, kk⟩ hD2 ⟨rfl, rfl⟩ Kc kc
          walk_at "q"
          refine ⟨rfl, ?_⟩
          walk_at "q"
          refine ⟨b, c, q, _, rfl, q0, by omega, g, fun x H6 g6 k6 => ?_⟩
          walk_at "q"
          refine r_I (.inr ⟨by omega, by omega⟩) ?_
          walk_at "q"
          exact kc _ _ (k6 _ _ hD2 (isBag_intL ns)) ⟨ns ++ [x - q * (d - 2)], by rw [List.map_append]; rfl, g6.mono (by omega), kk.trans k6⟩
        · rintro acc H4 hla ⟨ns, rfl, g, kk⟩ hD2
          rw [List.length_map] at hla
          exact h D ns H4 (by omega) hD2 (g.mono (by omega)) (k1.trans kk)
end
end K20

set_option Elab.async false
set_option linter.all false
set_option maxRecDepth 100000
set_option maxHeartbeats 4000000
namespace K20
open PySem PySem.Spec PyProof.Rows L2
local macro_rules | `(tactic| walk_at "q1") => `(tactic| first
  | with_reducible refine r_seq ?_ | with_reducible refine r_asg ?_ | with_reducible refine r_name ?_ | with_reducible refine r_ret ?_ | with_reducible refine r_ifS ?_ | with_reducible refine r_next ?_ | with_reducible refine r_drop ?_
  | ((with_reducible show tVar _ _ _ _); refine ⟨_, rfl, ?_⟩) | with_reducible refine r_c ?_ | with_reducible refine r_op ?_ | with_reducible refine r_un ?_ | with_reducible refine r_I0 ?_ | with_reducible refine r_U ?_
  | with_reducible refine r_eqI ?_ | with_reducible refine r_neI ?_ | with_reducible refine r_neB ?_ | with_reducible refine r_cb ?_ | with_reducible refine r_cons ?_ | with_reducible refine r_nil ?_ | with_reducible refine r_test ?_ | with_reducible refine r_tB ?_
  | with_reducible refine r_bl ?_ | with_reducible refine r_not ?_ | with_reducible refine r_notV ?_ | with_reducible refine r_and ?_ | with_reducible refine r_or ?_ | with_reducible refine r_andV ?_ | with_reducible refine r_orV ?_ | with_reducible refine r_if ?_
  | with_reducible refine r_T ?_ | with_reducible refine r_F ?_ | with_reducible refine r_NT ?_ | with_reducible refine r_NF ?_ | with_reducible refine r_call ?_ | with_reducible refine r_meth ?_ | with_reducible refine r_int1 ?_ | with_reducible refine r_fld ?_
  | with_reducible refine r_tup ?_ | with_reducible refine r_lst ?_ | with_reducible refine r_par ?_ | with_reducible refine r_par3 ?_ | with_reducible refine r_two ?_ | with_reducible refine r_three ?_ | with_reducible refine r_abs ?_ | with_reducible refine r_max ?_
  | with_reducible refine r_cut ?_ | with_reducible refine r_callS ?_ | with_reducible refine r_zipA ?_ | with_reducible refine r_isN ?_ | with_reducible refine r_lc ?_ | with_reducible refine r_lc2 ?_ | with_reducible refine r_mkB ?_ | with_reducible refine r_for ?_ | with_reducible refine r_iList ?_ | with_reducible refine r_iTup ?_ | with_reducible refine r_revL ?_ | with_reducible refine r_star ?_ | with_reducible refine r_bits ?_ | with_reducible refine r_iRng ?_ | with_reducible refine r_iEnum ?_ | with_reducible refine r_iZip ?_ | with_reducible refine r_sub ?_ | with_reducible refine r_sfld ?_ | with_reducible refine r_bm ?_
  | with_reducible refine r_methK ?_ | with_reducible refine r_methS ?_ | with_reducible refine r_make ?_ | with_reducible refine r_mod ?_ | with_reducible refine r_gtup ?_ | with_reducible refine r_gcons ?_ | with_reducible refine r_gnil ?_ | with_reducible refine r_slc ?_ | with_reducible refine r_part ?_ | with_reducible refine r_noPart ?_)
local macro_rules | `(tactic| walk_at "nw") => `(tactic| (intro p hp; generalize hu : upd _ p _ = H1; obtain ⟨s1, hp1⟩ := nwx hp hu; clear hu))
local macro_rules | `(tactic| walk_at "q") => `(tactic| repeat walk_at "q1")
section
variable {P : Program} {w : World} {K : Fr} {mg : Str → Option Value} {base : Heap}
/-! ### the law's sizes -/
def spSizes2 : Sp := fun vs H Q _ => ∃ (b c : Addr) (k : Nat), vs = [.ref b] ∧ k ≤ 700000 ∧ Bag b c k H ∧ ∀ z r H', z.Ok → TzAt z r H' → Bag b c (k + 20) H' → KpB H H' → Q (.ref r) H'
/-- the law's m and its bits -/
def MOk (m : Int) (a : Nat) : Prop := (m = 4 ∧ a = 2) ∨ (m = 8 ∧ a = 3) ∨ (m = 16 ∧ a = 4) ∨ (m = 32 ∧ a = 5)
theorem MOk.bits {m : Int} {a : Nat} (h : MOk m a) : Builtin.Int.intBits m = a + 1 := by
  rcases h with ⟨rfl, rfl⟩ | ⟨rfl, rfl⟩ | ⟨rfl, rfl⟩ | ⟨rfl, rfl⟩ <;> decide +kernel
theorem MOk.pow {m : Int} {a : Nat} (h : MOk m a) : m = 2 ^ a ∧ 2 ≤ a ∧ a ≤ 5 := by
  rcases h with ⟨rfl, rfl⟩ | ⟨rfl, rfl⟩ | ⟨rfl, rfl⟩ | ⟨rfl, rfl⟩ <;> exact ⟨by decide, by decide, by decide⟩
/-- what the sizes must be before the base is drawn -/
structure PreSz (n m l e t : Int) : Prop where
  n_ : 1 ≤ n ∧ n ≤ 8
  m_ : ∃ a, MOk m a ∧ (a : Int) + 4 ≤ t * l
  l_ : 1 ≤ l ∧ l ≤ 8
  e_ : 0 ≤ e ∧ e ≤ 1000
  t_ : 2 ≤ t ∧ t ≤ 16
theorem preSz_ok {n m l e t d : Int} (h : PreSz n m l e t) (d0 : 0 ≤ d) (d1 : d < 17 - t) : ∃ z : Sz, z.Ok ∧ (z.n : Int) = n ∧ (z.m : Int) = m ∧ (z.l : Int) = l ∧ (z.e : Int) = e ∧ (z.b : Int) = t + d := by
  obtain ⟨⟨n1, n2⟩, ⟨a, hm, ht⟩, ⟨l1, l2⟩, ⟨e1, e2⟩, ⟨t1, t2⟩⟩ := h
  obtain ⟨mp, a2, a5⟩ := hm.pow
  refine ⟨⟨n.toNat, m.toNat, (t + d).toNat, l.toNat, e.toNat⟩, ⟨by show 1 ≤ n.toNat; omega, by show n.toNat ≤ 8; omega, ?_, by show 2 ≤ (t + d).toNat; omega, by show (t + d).toNat ≤ 16; omega, by show 1 ≤ l.toNat; omega, by show l.toNat ≤ 8; omega, by show e.toNat ≤ 1000; omega, ?_⟩, ?_, ?_, ?_, ?_, ?_⟩
  · show m.toNat = 4 ∨ m.toNat = 8 ∨ m.toNat = 16 ∨ m.toNat = 32
    rcases hm with ⟨rfl, _⟩ | ⟨rfl, _⟩ | ⟨rfl, _⟩ | ⟨rfl, _⟩ <;> simp
  · rw [Sz.qpow]
    show 16 * ((m.toNat : Nat) : Int) ≤ 2 ^ ((t + d).toNat * l.toNat)
    have e0 : ((m.toNat : Nat) : Int) = 2 ^ a := by rw [← mp]; rcases hm with ⟨rfl, _⟩ | ⟨rfl, _⟩ | ⟨rfl, _⟩ | ⟨rfl, _⟩ <;> simp
    rw [e0]
    have h1 : (t.toNat * l.toNat : Nat) ≤ (t + d).toNat * l.toNat := Nat.mul_le_mul_right _ (by omega)
    have h2 : a + 4 ≤ t.toNat * l.toNat := by
      have e1 : ((t.toNat * l.toNat : Nat) : Int) = t * l := by
        rw [Int.natCast_mul, Int.toNat_of_nonneg (by omega), Int.toNat_of_nonneg (by omega)]
      omega
    have h3 : (2 : Nat) ^ (a + 4) ≤ 2 ^ ((t + d).toNat * l.toNat) := Nat.pow_le_pow_right (by decide) (by omega)
    have c1 : ((2 ^ (a + 4) : Nat) : Int) = (2 : Int) ^ a * 16 := by rw [Nat.pow_add]; simp
    have c2 : ((2 ^ ((t + d).toNat * l.toNat) : Nat) : Int) = (2 : Int) ^ ((t + d).toNat * l.toNat) := by simp
    omega
  · show ((n.toNat : Nat) : Int) = n; omega
  · show ((m.toNat : Nat) : Int) = m; rcases hm with ⟨rfl, _⟩ | ⟨rfl, _⟩ | ⟨rfl, _⟩ | ⟨rfl, _⟩ <;> simp
  · show ((l.toNat : Nat) : Int) = l; omega
  · show ((e.toNat : Nat) : Int) = e; omega
  · show (((t + d).toNat : Nat) : Int) = t + d; omega
theorem least_ok {l : Int} {a : Nat} (l1 : 1 ≤ l) (l2 : l ≤ 8) (a2 : 2 ≤ a) (a5 : a ≤ 5) (t : Int) (ht : t = if (2 : Int) < ((a + 1 : Nat) : Int) + 2 + l then 0 else 0) : True := trivial
theorem max_ok {l x : Int} {a : Nat} (l1 : 1 ≤ l) (l2 : l ≤ 8) (a5 : a ≤ 5) (hx : x = ((((a + 1 : Nat) : Int) + 2 + l) / l)) : (2 ≤ (if x > 2 then x else 2) ∧ (if x > 2 then x else 2) ≤ 16) ∧ (a : Int) + 4 ≤ (if x > 2 then x else 2) * l := by
  have e := Int.emod_add_mul_ediv (((a + 1 : Nat) : Int) + 2 + l) l
  have r0 := Int.emod_nonneg (((a + 1 : Nat) : Int) + 2 + l) (show l ≠ 0 by omega)
  have r1 := Int.emod_lt_of_pos (((a + 1 : Nat) : Int) + 2 + l) (show 0 < l by omega)
  rw [← hx] at e
  have x9 : x ≤ 9 := by
    rw [hx]
    refine Int.ediv_le_of_le_mul (by omega) ?_
    omega
  have xl : (a : Int) + 4 ≤ x * l := by
    rw [Int.mul_comm]
    omega
  have h2 : x * l ≤ (if x > 2 then x else 2) * l := Int.mul_le_mul_of_nonneg_right (by split <;> omega) (by omega)
  refine ⟨⟨by split <;> omega, by split <;> omega⟩, by omega⟩
theorem ok_sizes2 (T : Txt K mg) (c_law_draw : C8.Cal P w K mg base 1 "_law_draw" spDraw []) : C8.Cal P w K mg base 2 "_law_sizes" spSizes2 [] := by
  have S : FnScope ["_law_bag_here", "_law_way", "_law_n", "_law_m", "_law_l", "_law_e", "_law_least", "_law_base", "_law_q", "_law_j"] ["_law_bag_here"] (C8.fnScope (top 63)) := C8.fnScope_by (by decide +kernel)
  refine cal_of T.f_law_sizes T.g_law_sizes S (fun _ _ _ _ _ _ us hl => match us, hl with | [_], _ => rfl) (fun vs H Q E h => ?_) (fun cdv A outer s H vs Q E hr h => ?_)
  · obtain ⟨b, c, k, rfl, _⟩ := h
    rfl
  · obtain ⟨b, c, k, rfl, hk, hb, h⟩ := h
    refine ⟨_, (pss_cons (ps_set (i := 1) S.nd rfl (Or.inl rfl) (C8.pe_c c_law_draw hr (by decide) rfl (pa_cons (pv 0) (pa_cons pe_int pa_nil))))
      (pss_cons (ps_asg (pe_tup (pa_cons (pe_op op_add pe_int (pe_op op_mod (pv 1) pe_int)) (pa_cons pe_int (pa_cons pe_int (pa_cons (C8.pe_c c_law_draw hr (by decide) rfl (pa_cons (pv 0) (pa_cons pe_int pa_nil))) (pa_cons pe_int pa_nil)))))) (pg_tupK (K := K) (n := 5) rfl rfl (pgs_cons (pg_name (i := 2) S.nd rfl (Or.inl rfl)) (pgs_cons (pg_name (i := 3) S.nd rfl (Or.inl rfl)) (pgs_cons (pg_name (i := 4) S.nd rfl (Or.inl rfl)) (pgs_cons (pg_name (i := 5) S.nd rfl (Or.inl rfl)) (pgs_cons (pg_name (i := 6) S.nd rfl (Or.inl rfl)) pgs_nil)))))))
      (C8.pss_cut (ps_if (pt_cmpR op_gt (pv 1) pe_int (nomark _)) (pss_cons (ps_par3 (i := 2) (j := 3) (l := 4) rfl S.nd rfl rfl rfl (by decide) (by decide) (by decide) rfl rfl rfl (pa_cons (pe_op op_add pe_int (C8.pe_c c_law_draw hr (by decide) rfl (pa_cons (pv 0) (pa_cons pe_int pa_nil)))) (pa_cons (pe_op op_shlW pe_int (C8.pe_c c_law_draw hr (by decide) rfl (pa_cons (pv 0) (pa_cons pe_int pa_nil)))) (pa_cons (pe_op op_add pe_int (C8.pe_c c_law_draw hr (by decide) rfl (pa_cons (pv 0) (pa_cons pe_int pa_nil)))) pa_nil))) (by rfl))
      (C8.pss_cut (ps_if (pt_cmpR op_eq (pv 1) pe_int (nomark _)) (pss_one (ps_par3 (i := 2) (j := 3) (l := 4) rfl S.nd rfl rfl rfl (by decide) (by decide) (by decide) rfl rfl rfl (pa_cons (pe_op op_add pe_int (C8.pe_c c_law_draw hr (by decide) rfl (pa_cons (pv 0) (pa_cons pe_int pa_nil)))) (pa_cons pe_int (pa_cons (pe_op op_add pe_int (C8.pe_c c_law_draw hr (by decide) rfl (pa_cons (pv 0) (pa_cons pe_int pa_nil)))) pa_nil))) (by rfl))) (pss_one (ps_if (pt_cmpR op_eq (pv 1) pe_int (nomark _)) (pss_one (ps_par3 (i := 2) (j := 3) (l := 4) rfl S.nd rfl rfl rfl (by decide) (by decide) (by decide) rfl rfl rfl (pa_cons (pe_op op_add pe_int (C8.pe_c c_law_draw hr (by decide) rfl (pa_cons (pv 0) (pa_cons pe_int pa_nil)))) (pa_cons pe_int (pa_cons (pe_op op_add pe_int (C8.pe_c c_law_draw hr (by decide) rfl (pa_cons (pv 0) (pa_cons pe_int pa_nil)))) pa_nil))) (by rfl))) (pss_one (ps_if (pt_cmpR op_eq (pv 1) pe_int (nomark _)) (pss_one (ps_par3 (i := 2) (j := 3) (l := 4) rfl S.nd rfl rfl rfl (by decide) (by decide) (by decide) rfl rfl rfl (pa_cons pe_int (pa_cons pe_int (pa_cons (pe_op op_add pe_int (C8.pe_c c_law_draw hr (by decide) rfl (pa_cons (pv 0) (pa_cons pe_int pa_nil)))) pa_nil))) (by rfl))) pss_nil)))))
      (pss_cons (ps_set (i := 6) S.nd rfl (Or.inl rfl) (pe_callB (call_max2 rfl) rfl T.z_max (by decide +kernel) (pa_cons pe_int (pa_cons (pe_op op_fdiv (pe_op op_add (pe_op op_add (pe_bits (pv 3)) pe_int) (pv 4)) (pv 4)) pa_nil))))
      (pss_one (ps_set (i := 5) S.nd rfl (Or.inl rfl) (pe_ix (ix_listK (K := K) rfl) (pe_lst (pa_cons pe_int (pa_cons pe_int (pa_cons pe_int (pa_cons pe_int (pa_cons pe_int (pa_cons (C8.pe_c c_law_draw hr (by decide) rfl (pa_cons (pv 0) (pa_cons pe_int pa_nil))) pa_nil))))))) (C8.pe_c c_law_draw hr (by decide) rfl (pa_cons (pv 0) (pa_cons pe_int pa_nil))) (fun _ _ => rfl))))))) pss_nil)
      (pss_cons (ps_par (i := 7) (j := 8) rfl S.nd rfl rfl (by decide) rfl rfl (pa_cons (pe_op op_oneShl pe_int (pe_op op_add (pv 6) (C8.pe_c c_law_draw hr (by decide) rfl (pa_cons (pv 0) (pa_cons (pe_op op_sub pe_int (pv 6)) pa_nil))))) (pa_cons pe_int pa_nil)) (by rfl))
      (pss_cons (ps_for PassesOwn.never rfl (pi_range1 rfl T.z_range (pa_cons (pv 4) pa_nil)) (pg_name (i := 9) S.nd rfl (Or.inl rfl)) (pss_one (ps_set (i := 8) S.nd rfl (Or.inl rfl) (pe_op op_mul (pv 8) (pv 7)))))
      (pss_one (ps_ret (pe_tup (pa_cons (pv 2) (pa_cons (pv 3) (pa_cons (pv 7) (pa_cons (pv 4) (pa_cons (pv 5) (pa_cons (pv 8) pa_nil)))))))))))))), ?_⟩
    walk_at "q"
    refine ⟨b, c, _, k, rfl, by decide, by decide, by omega, hb, fun w H1 w0 w1 hb1 k1 => ?_⟩
    walk_at "q"
    refine r_I (by decide) ?_
    walk_at "q"
    refine ⟨b, c, _, k + 1, rfl, by decide, by decide, by omega, hb1, fun e0 H2 e1 e2 hb2 k2 => ?_⟩
    walk_at "q"
    refine ⟨(show (5 : Nat) ≤ sizeLine by decide), ?_⟩
    walk_at "nw"
    rename_i p np H3 s3 hp
    walk_at "q"
    refine ⟨p, _, rfl, SqT.of hp, rfl, ?_⟩
    walk_at "q"
    have k3 := k1.trans (k2.trans (KpB.of s3))
    have b3 := hb2.same s3
    refine ⟨fun σ' H' => ∃ n m l e t : Int, σ' = [some (.ref b), some (.int w), some (.int n), some (.int m), some (.int l), some (.int e), some (.int t), none, none, none] ∧ PreSz n m l e t ∧ Bag b c (k + 15) H' ∧ KpB H H', ?_, ?_⟩
    · walk_at "q"
      refine r_ite (fun gt => ?_) fun le => ?_
      · walk_at "q"
        refine ⟨b, c, _, k + 2, rfl, by decide, by decide, by omega, b3, fun x1 H4 x10 x11 b4 k4 => ?_⟩
        walk_at "q"
        refine ⟨b, c, _, k + 3, rfl, by decide, by decide, by omega, b4, fun x2 H5 x20 x21 b5 k5 => ?_⟩
        obtain ⟨x2, rfl⟩ := Int.eq_ofNat_of_zero_le x20
        refine r_I (shl_ok (n := 3) (by decide) (by omega)) ?_
        walk_at "q"
        refine ⟨b, c, _, k + 4, rfl, by decide, by decide, by omega, b5, fun x3 H6 x30 x31 b6 k6 => ?_⟩
        walk_at "q"
        have k36 := k3.trans (k4.trans (k5.trans k6))
        have hm1 : ∃ a, MOk (4 * 2 ^ (x2 : Int).toNat) a := by
          have : x2 = 0 ∨ x2 = 1 := by omega
          rcases this with rfl | rfl
          · exact ⟨2, .inl ⟨rfl, rfl⟩⟩
          · exact ⟨3, .inr (.inl ⟨rfl, rfl⟩)⟩
        obtain ⟨a1, hm1⟩ := hm1
        generalize 4 * 2 ^ (x2 : Int).toNat = m1 at hm1 ⊢
        refine ⟨fun σ' H' => ∃ n m l : Int, ∃ a, σ' = [some (.ref b), some (.int w), some (.int n), some (.int m), some (.int l), some (.int e0), some (.int 12), none, none, none] ∧ (1 ≤ n ∧ n ≤ 8) ∧ MOk m a ∧ (1 ≤ l ∧ l ≤ 8) ∧ Bag b c (k + 8) H' ∧ KpB H H', ?_, ?_⟩
        · walk_at "q"
          refine r_ite (fun e11 => ?_) fun e11 => ?_
          · walk_at "q"
            refine ⟨b, c, _, k + 5, rfl, by decide, by decide, by omega, b6, fun y1 H7 y10 y11 b7 k7 => ?_⟩
            walk_at "q"
            refine ⟨b, c, _, k + 6, rfl, by decide, by decide, by omega, b7, fun y2 H8 y20 y21 b8 k8 => ?_⟩
            walk_at "q"
            exact ⟨_, _, _, 4, rfl, ⟨by omega, by omega⟩, .inr (.inr (.inl ⟨rfl, rfl⟩)), ⟨by omega, by omega⟩, b8.mono (by omega), k36.trans (k7.trans k8)⟩
          · walk_at "q"
            refine r_ite (fun e12 => ?_) fun e12 => ?_
            · walk_at "q"
              refine ⟨b, c, _, k + 5, rfl, by decide, by decide, by omega, b6, fun y1 H7 y10 y11 b7 k7 => ?_⟩
              walk_at "q"
              refine ⟨b, c, _, k + 6, rfl, by decide, by decide, by omega, b7, fun y2 H8 y20 y21 b8 k8 => ?_⟩
              walk_at "q"
              exact ⟨_, _, _, 2, rfl, ⟨by omega, by omega⟩, .inl ⟨rfl, rfl⟩, ⟨by omega, by omega⟩, b8.mono (by omega), k36.trans (k7.trans k8)⟩
            · walk_at "q"
              refine r_ite (fun e13 => ?_) fun e13 => ?_
              · walk_at "q"
                refine ⟨b, c, _, k + 5, rfl, by decide, by decide, by omega, b6, fun y1 H7 y10 y11 b7 k7 => ?_⟩
                walk_at "q"
                exact ⟨_, _, _, 5, rfl, ⟨by omega, by omega⟩, .inr (.inr (.inr ⟨rfl, rfl⟩)), ⟨by omega, by omega⟩, b7.mono (by omega), k36.trans k7⟩
              · walk_at "q"
                exact ⟨_, _, _, a1, rfl, ⟨by omega, by omega⟩, hm1, ⟨by omega, by omega⟩, b6.mono (by omega), k36⟩
        · rintro σ' H7 ⟨n, m, l, a, rfl, hn, hm, hl, b7, k7⟩
          obtain ⟨_, a2, a5⟩ := hm.pow
          walk_at "q"
          refine ⟨_, rfl, ?_⟩
          walk_at "q"
          refine r_I ⟨by omega, by omega⟩ ?_
          walk_at "q"
          rw [hm.bits]
          refine ⟨_, _, rfl, ?_⟩
          walk_at "q"
          obtain ⟨t1, t2⟩ := max_ok hl.1 hl.2 a5 rfl
          generalize (if (((a + 1 : Nat) : Int) + 2 + l) / l > 2 then (((a + 1 : Nat) : Int) + 2 + l) / l else 2) = t at t1 t2
          refine ⟨b, c, _, k + 8, rfl, by decide, by decide, by omega, b7, fun x4 H8 x40 x41 b8 k8 => ?_⟩
          walk_at "q"
          refine ⟨(show (6 : Nat) ≤ sizeLine by decide), fun p8 n8 => ?_⟩
          generalize hu : upd H8 p8 _ = H9
          obtain ⟨s9, hp9⟩ := nwx n8 hu
          clear hu
          walk_at "q"
          refine ⟨b, c, _, k + 9, rfl, by decide, by decide, by omega, b8.same s9, fun x5 H10 x50 x51 b10 k10 => ?_⟩
          walk_at "q"
          obtain ⟨j, rfl⟩ := Int.eq_ofNat_of_zero_le x50
          have hj : j < 6 := by omega
          have hx : ∃ x : Int, ([.int 0, .int 1, .int 2, .int 3, .int 1000, .int x4] : List V)[j]? = some (.int x) ∧ 0 ≤ x ∧ x ≤ 1000 := by
            match j, hj with
            | 0, _ => exact ⟨_, rfl, by omega, by omega⟩
            | 1, _ => exact ⟨_, rfl, by omega, by omega⟩
            | 2, _ => exact ⟨_, rfl, by omega, by omega⟩
            | 3, _ => exact ⟨_, rfl, by omega, by omega⟩
            | 4, _ => exact ⟨_, rfl, by omega, by omega⟩
            | 5, _ => exact ⟨_, rfl, by omega, by omega⟩
          obtain ⟨x, hx, ex0, ex1⟩ := hx
          refine ⟨p8, _, _, _, rfl, rfl, SqL.of (k10 _ _ hp9 rfl), atI_nat hx, ?_⟩
          walk_at "q"
          exact ⟨_, _, _, _, _, rfl, ⟨hn, ⟨a, hm, t2⟩, hl, ⟨ex0, ex1⟩, t1⟩, b10.mono (by omega), k7.trans (k8.trans ((KpB.of s9).trans k10))⟩
      · walk_at "q"
        exact ⟨_, _, _, _, _, rfl, ⟨⟨by omega, by omega⟩, ⟨3, .inr (.inl ⟨rfl, rfl⟩), by decide⟩, ⟨by decide, by decide⟩, ⟨by omega, by omega⟩, ⟨by decide, by decide⟩⟩, b3.mono (by omega), k3⟩
    · rintro σ' H4 ⟨n, m, l, e, t, rfl, pre, b4, k4⟩
      have tt := pre.t_
      walk_at "q"
      refine ⟨b, c, _, k + 15, rfl, by omega, by omega, by omega, b4, fun d H5 d0 d1 b5 k5 => ?_⟩
      obtain ⟨z, o, rfl, rfl, rfl, rfl, eb⟩ := preSz_ok pre d0 d1
      walk_at "q"
      refine ⟨z.b, rfl, by rw [eb], by have := o.b16; omega, ?_⟩
      walk_at "q"
      have l8 := o.l8
      have ble := Sz.Ble o
      have bp := z.Bpos
      refine ⟨_, rfl, by omega, by omega, ?_⟩
      refine for_it (walk_range (n := (z.l : Int).toNat)) (fun i σ H' => ∃ v9, σ = [some (.ref b), some (.int w), some (.int z.n), some (.int z.m), some (.int z.l), some (.int z.e), some (.int t), some (.int z.B), some (.int (z.B ^ i)), v9] ∧ H' = H5) ⟨_, rfl, rfl⟩ (fun _ _ _ _ _ => trivial) ?_ ?_
      · rintro i v σ H6 H7 hi ⟨v9, rfl, rfl⟩ ⟨rfl, rfl⟩
        walk_at "q"
        refine r_I (.inr ⟨by omega, by omega⟩) ?_
        walk_at "q"
        exact ⟨_, by rw [Int.pow_succ]; rfl, rfl⟩
      · rw [Int.toNat_natCast]
        rintro σ H6 ⟨v9, rfl, rfl⟩
        walk_at "q"
        refine ⟨(show (6 : Nat) ≤ sizeLine by decide), fun r nr => ?_⟩
        exact h z r _ o upd_same ((b5.same (same_upd nr)).mono (by omega)) (k4.trans (k5.trans (KpB.of (same_upd nr))))
end
end K20

set_option Elab.async false
set_option linter.all false
set_option maxRecDepth 100000
set_option maxHeartbeats 4000000
namespace K20
open PySem PySem.Spec PyProof.Rows L2
local macro_rules | `(tactic| walk_at "q1") => `(tactic| first
  | with_reducible refine r_seq ?_ | with_reducible refine r_asg ?_ | with_reducible refine r_name ?_ | with_reducible refine r_ret ?_ | with_reducible refine r_ifS ?_ | with_reducible refine r_next ?_ | with_reducible refine r_drop ?_
  | ((with_reducible show tVar _ _ _ _); refine ⟨_, rfl, ?_⟩) | with_reducible refine r_c ?_ | with_reducible refine r_op ?_ | with_reducible refine r_un ?_ | with_reducible refine r_I0 ?_ | with_reducible refine r_U ?_
  | with_reducible refine r_eqI ?_ | with_reducible refine r_neI ?_ | with_reducible refine r_neB ?_ | with_reducible refine r_cb ?_ | with_reducible refine r_cons ?_ | with_reducible refine r_nil ?_ | with_reducible refine r_test ?_ | with_reducible refine r_tB ?_
  | with_reducible refine r_bl ?_ | with_reducible refine r_not ?_ | with_reducible refine r_notV ?_ | with_reducible refine r_and ?_ | with_reducible refine r_or ?_ | with_reducible refine r_andV ?_ | with_reducible refine r_orV ?_ | with_reducible refine r_if ?_
  | with_reducible refine r_T ?_ | with_reducible refine r_F ?_ | with_reducible refine r_NT ?_ | with_reducible refine r_NF ?_ | with_reducible refine r_call ?_ | with_reducible refine r_meth ?_ | with_reducible refine r_int1 ?_ | with_reducible refine r_fld ?_
  | with_reducible refine r_tup ?_ | with_reducible refine r_lst ?_ | with_reducible refine r_par ?_ | with_reducible refine r_par3 ?_ | with_reducible refine r_two ?_ | with_reducible refine r_three ?_ | with_reducible refine r_abs ?_ | with_reducible refine r_max ?_
  | with_reducible refine r_cut ?_ | with_reducible refine r_callS ?_ | with_reducible refine r_zipA ?_ | with_reducible refine r_isN ?_ | with_reducible refine r_lc ?_ | with_reducible refine r_lc2 ?_ | with_reducible refine r_mkB ?_ | with_reducible refine r_for ?_ | with_reducible refine r_iList ?_ | with_reducible refine r_iTup ?_ | with_reducible refine r_revL ?_ | with_reducible refine r_star ?_ | with_reducible refine r_bits ?_ | with_reducible refine r_iRng ?_ | with_reducible refine r_iEnum ?_ | with_reducible refine r_iZip ?_ | with_reducible refine r_sub ?_ | with_reducible refine r_sfld ?_ | with_reducible refine r_bm ?_
  | with_reducible refine r_methK ?_ | with_reducible refine r_methS ?_ | with_reducible refine r_make ?_ | with_reducible refine r_mod ?_ | with_reducible refine r_gtup ?_ | with_reducible refine r_gcons ?_ | with_reducible refine r_gnil ?_ | with_reducible refine r_slc ?_ | with_reducible refine r_part ?_ | with_reducible refine r_noPart ?_)
local macro_rules | `(tactic| walk_at "nw") => `(tactic| (intro p hp; generalize hu : upd _ p _ = H1; obtain ⟨s1, hp1⟩ := nwx hp hu; clear hu))
local macro_rules | `(tactic| walk_at "q") => `(tactic| repeat walk_at "q1")
section
variable {P : Program} {w : World} {K : Fr} {mg : Str → Option Value} {base : Heap}
/-! ### the law's pen, covers -/
def spSizeOf : Sp := fun vs H Q _ => ∃ (t : Addr) (z : Sz), vs = [.ref t] ∧ z.Ok ∧ TzAt z t H ∧ ∀ so H', H so = none → Same H H' → SzAt z so H' → Q (.ref so) H'
theorem ok_size_of (T : Txt K mg) (c_Sizes : C8.Mak P w K mg base 3 "Sizes" 273 spSizes []) : C8.Cal P w K mg base 5 "_law_size_of" spSizeOf [] := by
  have S : FnScope ["_law_sz"] ["_law_sz"] (C8.fnScope (top 76)) := C8.fnScope_by (by decide +kernel)
  refine cal_of T.f_law_size_of T.g_law_size_of S (fun _ _ _ _ _ _ us hl => match us, hl with | [_], _ => rfl) (fun vs H Q E h => ?_) (fun cdv A outer s H vs Q E hr h => ?_)
  · obtain ⟨t, z, rfl, _⟩ := h
    rfl
  · obtain ⟨t, z, rfl, o, ht, h⟩ := h
    have ht : H t = some (.tup [.int z.n, .int z.m, .int z.B, .int z.l, .int z.e, .int z.q]) := ht
    refine ⟨_, (pss_one (ps_ret (C8.pe_mk c_Sizes hr (by decide) rfl (pa_cons (pe_ix (ix_tupK (K := K) rfl) (pv 0) pe_int (fun _ _ => rfl)) (pa_cons (pe_ix (ix_tupK (K := K) rfl) (pv 0) pe_int (fun _ _ => rfl)) (pa_cons (pe_ix (ix_tupK (K := K) rfl) (pv 0) pe_int (fun _ _ => rfl)) (pa_cons (pe_ix (ix_tupK (K := K) rfl) (pv 0) pe_int (fun _ _ => rfl)) (pa_cons (pe_ix (ix_tupK (K := K) rfl) (pv 0) pe_int (fun _ _ => rfl)) pa_nil)))))))), ?_⟩
    walk_at "q"
    refine ⟨t, _, 0, _, rfl, rfl, SqT.of ht, rfl, ?_⟩
    walk_at "q"
    refine ⟨t, _, 1, _, rfl, rfl, SqT.of ht, rfl, ?_⟩
    walk_at "q"
    refine ⟨t, _, 2, _, rfl, rfl, SqT.of ht, rfl, ?_⟩
    walk_at "q"
    refine ⟨t, _, 3, _, rfl, rfl, SqT.of ht, rfl, ?_⟩
    walk_at "q"
    refine ⟨t, _, 4, _, rfl, rfl, SqT.of ht, rfl, ?_⟩
    walk_at "q"
    intro x xd nx nd ne
    have s := made_new (o := .ins 273 xd []) (u := .own x) nx nd ne
    exact ⟨x, xd, z, rfl, o, upd_same, fun H' k h' => ⟨rfl, h x H' nx (fun b u e => k _ _ (ne_of_none e nx) (s _ _ e)) h'⟩⟩
def spMid : Sp := fun vs H Q _ => ∃ x q : Int, vs = [.int x, .int q] ∧ 0 < q ∧ Q (.int (mid x q)) H
theorem ok_mid (T : Txt K mg) : C8.Cal P w K mg base 1 "_law_mid" spMid [] := by
  have S : FnScope ["_law_x", "_law_q", "_law_rest"] ["_law_x", "_law_q"] (C8.fnScope (top 64)) := C8.fnScope_by (by decide +kernel)
  refine cal_of T.f_law_mid T.g_law_mid S (fun _ _ _ _ _ _ us hl => match us, hl with | [_, _], _ => rfl) (fun vs H Q E h => ?_) (fun cdv A outer s H vs Q E hr h => ?_)
  · obtain ⟨x, q, rfl, _⟩ := h
    rfl
  · obtain ⟨x, q, rfl, q0, h⟩ := h
    refine ⟨_, (pss_cons (ps_set (i := 2) S.nd rfl (Or.inl rfl) (pe_op op_mod (pe_callTy call_int1 rfl T.z_int (by decide +kernel) (pa_cons (pv 0) pa_nil)) (pv 1)))
      (pss_one (ps_ret (pe_ifExp (pt_cmpR op_ge (pe_op op_mul pe_int (pv 2)) (pv 1) (nomark _)) (pe_op op_sub (pv 2) (pv 1)) (pv 2))))), ?_⟩
    walk_at "q"
    refine .inl ⟨_, rfl, ?_⟩
    walk_at "q"
    refine r_I q0 ?_
    walk_at "q"
    refine r_I (.inl ⟨by decide, by decide⟩) ?_
    unfold mid at h
    walk_at "q"
    refine r_ite (fun c => ?_) fun c => ?_
    · walk_at "q"
      rw [if_pos (by omega)] at h
      exact h
    · walk_at "q"
      rw [if_neg (by omega)] at h
      exact h
/-- the law's own pen -/
def DrAt : Pen → Addr → Pl → Hp → Prop
  | .made s, d, l, H => H d = some (.lst [.int 0, .int s, .ref l.na, .ref l.ea, .int 0, .int 0])
  | .lst ns es i j, d, l, H => H d = some (.lst [.int 1, .int 0, .ref l.na, .ref l.ea, .int (i : Nat), .int (j : Nat)]) ∧ H l.na = some (intL ns) ∧ H l.ea = some (intL es)
theorem DrAt.at_ {p : Pen} {d : Addr} {l : Pl} {H : Hp} (h : DrAt p d l H) : ∃ k x y z u v, H d = some (.lst [.int k, .int x, .ref y, .ref z, u, v]) := by
  cases p with
  | made s => exact ⟨_, _, _, _, _, _, h⟩
  | lst ns es i j => exact ⟨_, _, _, _, _, _, h.1⟩
/-- an object that is no law's pen -/
theorem DrAt.ne_int {p : Pen} {d a : Addr} {l : Pl} {H : Hp} (h : DrAt p d l H) {ns : List Int} (e : H a = some (intL ns)) : a ≠ d := by
  obtain ⟨k, x, y, z, u, v, q⟩ := h.at_
  intro z
  rw [z, q] at e
  cases ns with
  | nil => cases e
  | cons n ns =>
    cases ns with
    | nil => cases e
    | cons m ns =>
      cases ns with
      | nil => cases e
      | cons o ns => cases e
theorem DrAt.ne_ref {p : Pen} {d a : Addr} {l : Pl} {H : Hp} (h : DrAt p d l H) {ns : List Addr} (e : H a = some (refL ns)) : a ≠ d := by
  obtain ⟨k, x, y, z, u, v, q⟩ := h.at_
  intro z
  rw [z, q] at e
  cases ns with
  | nil => cases e
  | cons n ns => cases e
theorem DrAt.ne_tup {p : Pen} {d a : Addr} {l : Pl} {H : Hp} (h : DrAt p d l H) {xs : List V} (e : H a = some (.tup xs)) : a ≠ d := by
  obtain ⟨k, x, y, z, u, v, q⟩ := h.at_
  intro z
  rw [z, q] at e
  cases e
theorem DrAt.ne_ins {p : Pen} {d a : Addr} {l : Pl} {H : Hp} (h : DrAt p d l H) {C dx : Addr} {fs : List (Str × V)} (e : H a = some (.ins C dx fs)) : a ≠ d := by
  obtain ⟨k, x, y, z, u, v, q⟩ := h.at_
  intro z
  rw [z, q] at e
  cases e
theorem DrAt.off {p : Pen} {a D : Addr} {l : Pl} {H : Hp} (h : DrAt p a l H) (hD : H D = none) (hn : H l.na ≠ none) (he : H l.ea ≠ none) : D ≠ a ∧ D ≠ l.na ∧ D ≠ l.ea := by
  obtain ⟨k, x, y, z, u, v, q⟩ := h.at_
  exact ⟨fun e => (by rw [e, q] at hD; cases hD), fun e => hn (by rw [← e]; exact hD), fun e => he (by rw [← e]; exact hD)⟩
theorem DrAt.upd {p : Pen} {a D : Addr} {l : Pl} {H : Hp} {o : HO} (h : DrAt p a l H) (d : D ≠ a ∧ D ≠ l.na ∧ D ≠ l.ea) : DrAt p a l (upd H D o) := by
  obtain ⟨d1, d2, d3⟩ := d
  cases p with
  | made st =>
    show L2.upd H D o a = _
    rw [upd_ne d1.symm]; exact h
  | lst ns es i j => exact ⟨by rw [upd_ne d1.symm]; exact h.1, by rw [upd_ne d2.symm]; exact h.2.1, by rw [upd_ne d3.symm]; exact h.2.2⟩
theorem DrAt.same {p : Pen} {a : Addr} {l : Pl} {H H' : Hp} (h : DrAt p a l H) (s : Same H H') : DrAt p a l H' := by
  cases p with
  | made st => exact s _ _ h
  | lst ns es i j => exact ⟨s _ _ h.1, s _ _ h.2.1, s _ _ h.2.2⟩
def spStep : Sp := fun vs H Q _ => ∃ (d a b : Addr) (s : Int), vs = [.ref d] ∧ H d = some (.lst [.int 0, .int s, .ref a, .ref b, .int 0, .int 0]) ∧ Q (.int (adv s / 65536)) (upd H d (.lst [.int 0, .int (adv s), .ref a, .ref b, .int 0, .int 0]))
theorem ok_step (T : Txt K mg) : C8.Cal P w K mg base 1 "_law_step" spStep [] := by
  have S : FnScope ["_law_dr"] ["_law_dr"] (C8.fnScope (top 65)) := C8.fnScope_by (by decide +kernel)
  refine cal_of T.f_law_step T.g_law_step S (fun _ _ _ _ _ _ us hl => match us, hl with | [_], _ => rfl) (fun vs H Q E h => ?_) (fun cdv A outer s H vs Q E hr h => ?_)
  · obtain ⟨d, a, b, s, rfl, _⟩ := h
    rfl
  · obtain ⟨d, a, b, st, rfl, hd, h⟩ := h
    refine ⟨_, (pss_cons (ps_asg (pe_op op_mod (pe_callTy call_int1 rfl T.z_int (by decide +kernel) (pa_cons (pe_op op_add (pe_op op_mul (pe_ix (ix_listK (K := K) rfl) (pv 0) pe_int (fun _ _ => rfl)) pe_int) pe_int) pa_nil)) pe_int) (pg_sub (pv 0) pe_int set_list))
      (pss_one (ps_ret (pe_op op_fdiv (pe_ix (ix_listK (K := K) rfl) (pv 0) pe_int (fun _ _ => rfl)) pe_int)))), ?_⟩
    walk_at "q"
    refine ⟨d, _, 1, _, rfl, rfl, SqL.of hd, rfl, ?_⟩
    walk_at "q"
    refine r_I (.inr ⟨by decide, by decide⟩) ?_
    walk_at "q"
    refine .inl ⟨_, rfl, ?_⟩
    walk_at "q"
    refine r_I (by decide) ?_
    walk_at "q"
    refine ⟨d, _, 1, 1, rfl, rfl, hd, rfl, ?_⟩
    walk_at "q"
    refine ⟨d, _, 1, _, rfl, rfl, SqL.of upd_same, rfl, ?_⟩
    walk_at "q"
    refine r_I ⟨by decide, by decide⟩ ?_
    exact h
def spRes2 (p : Pen) : Sp := fun vs H Q _ => ∃ (d t : Addr) (z : Sz) (l : Pl), vs = [.ref d, .ref t] ∧ z.Ok ∧ TzAt z t H ∧ DrAt p d l H ∧ p.Ok ∧ ∀ H', KpA d H H' → DrAt (p.resid z).2 d l H' → Q (.int (p.resid z).1) H'
def spNoi2 (p : Pen) : Sp := fun vs H Q _ => ∃ (d t : Addr) (z : Sz) (l : Pl), vs = [.ref d, .ref t] ∧ z.Ok ∧ TzAt z t H ∧ DrAt p d l H ∧ p.Ok ∧ ∀ H', KpA d H H' → DrAt (p.noise z).2 d l H' → Q (.int (p.noise z).1) H'
def spAnyPen (sp : Pen → Sp) : Sp := fun vs H Q E => ∃ p, sp p vs H Q E
theorem ok_residue2 (T : Txt K mg) (c_law_step : C8.Cal P w K mg base 1 "_law_step" spStep []) : C8.Cal P w K mg base 2 "_law_residue" (spAnyPen spRes2) [] := by
  have S : FnScope ["_law_dr", "_law_sz", "_law_u", "_law_v"] ["_law_dr", "_law_sz"] (C8.fnScope (top 66)) := C8.fnScope_by (by decide +kernel)
  refine cal_of T.f_law_residue T.g_law_residue S (fun _ _ _ _ _ _ us hl => match us, hl with | [_, _], _ => rfl) (fun vs H Q E h => ?_) (fun cdv A outer s H vs Q E hr h => ?_)
  · obtain ⟨p, d, t, z, l, rfl, _⟩ := h
    rfl
  · obtain ⟨p, d, t, z, l, rfl, o, ht, hd, pok, h⟩ := h
    refine ⟨_, (pss_cons (ps_if (pt_cmpR op_eq (pe_ix (ix_listK (K := K) rfl) (pv 0) pe_int (fun _ _ => rfl)) pe_int (nomark _)) (pss_cons (ps_set (i := 2) S.nd rfl (Or.inl rfl) (C8.pe_c c_law_step hr (by decide) rfl (pa_cons (pv 0) pa_nil)))
      (pss_cons (ps_set (i := 3) S.nd rfl (Or.inl rfl) (C8.pe_c c_law_step hr (by decide) rfl (pa_cons (pv 0) pa_nil)))
      (pss_one (ps_ret (pe_op op_mod (pe_callTy call_int1 rfl T.z_int (by decide +kernel) (pa_cons (pe_op op_add (pe_op op_add (pe_op op_shlW (pv 2) pe_int) (pe_op op_shlW (pv 3) pe_int)) (C8.pe_c c_law_step hr (by decide) rfl (pa_cons (pv 0) pa_nil))) pa_nil)) (pe_ix (ix_tupK (K := K) rfl) (pv 1) pe_int (fun _ _ => rfl))))))) pss_nil)
      (pss_cons (ps_asg (pe_op op_add (pe_ix (ix_listK (K := K) rfl) (pv 0) pe_int (fun _ _ => rfl)) pe_int) (pg_sub (pv 0) pe_int set_list))
      (pss_one (ps_ret (pe_op op_mod (pe_callTy call_int1 rfl T.z_int (by decide +kernel) (pa_cons (pe_ix (ix_listK (K := K) rfl) (pe_ix (ix_listK (K := K) rfl) (pv 0) pe_int (fun _ _ => rfl)) (pe_op op_mod (pe_callTy call_int1 rfl T.z_int (by decide +kernel) (pa_cons (pe_op op_sub (pe_ix (ix_listK (K := K) rfl) (pv 0) pe_int (fun _ _ => rfl)) pe_int) pa_nil)) (pe_callB call_len_seq rfl T.z_len (by decide +kernel) (pa_cons (pe_ix (ix_listK (K := K) rfl) (pv 0) pe_int (fun _ _ => rfl)) pa_nil))) (fun _ _ => rfl)) pa_nil)) (pe_ix (ix_tupK (K := K) rfl) (pv 1) pe_int (fun _ _ => rfl))))))), ?_⟩
    have nt := hd.ne_tup ht
    have ht' : H t = some (.tup [.int z.n, .int z.m, .int z.B, .int z.l, .int z.e, .int z.q]) := ht
    cases p with
    | made st =>
      have hd' : H d = some (.lst [.int 0, .int st, .ref l.na, .ref l.ea, .int 0, .int 0]) := hd
      walk_at "q"
      refine ⟨d, _, 0, _, rfl, rfl, SqL.of hd', rfl, ?_⟩
      walk_at "q"
      refine r_pos rfl ?_
      walk_at "q"
      refine ⟨d, _, _, st, rfl, hd', ?_⟩
      walk_at "q"
      refine ⟨d, _, _, _, rfl, upd_same, ?_⟩
      rw [upd_upd]
      walk_at "q"
      obtain ⟨a1, a2⟩ := adv_part st
      obtain ⟨b1, b2⟩ := adv_part (adv st)
      refine r_I (shl_ok (n := 60) (j := 90) (by omega) (by decide)) ?_
      walk_at "q"
      refine r_I (shl_ok (n := 60) (j := 45) (by omega) (by decide)) ?_
      walk_at "q"
      refine ⟨d, _, _, _, rfl, upd_same, ?_⟩
      rw [upd_upd]
      walk_at "q"
      refine .inl ⟨_, rfl, ?_⟩
      walk_at "q"
      refine ⟨t, _, 5, _, rfl, rfl, SqT.of (by rw [upd_ne nt]; exact ht'), rfl, ?_⟩
      refine r_I z.qpos ?_
      have e : adv st / 65536 * 2 ^ (90 : Int).toNat + adv (adv st) / 65536 * 2 ^ (45 : Int).toNat + adv (adv (adv st)) / 65536 = (tot st 3).1 := by
        show _ = ((0 * 2 ^ 45 + adv st / 65536) * 2 ^ 45 + adv (adv st) / 65536) * 2 ^ 45 + adv (adv (adv st)) / 65536
        have e1 : (90 : Int).toNat = 90 := rfl
        have e2 : (45 : Int).toNat = 45 := rfl
        rw [e1, e2]
        omega
      rw [e]
      exact h _ KpA.upd upd_same
    | lst ns es i j =>
      obtain ⟨hd', hn, he⟩ := id hd
      obtain ⟨k1, k2, k3, k4⟩ := id pok
      have nl := List.length_pos_iff.mpr k1
      have n1 := hd.ne_int hn
      have n2 := hd.ne_int he
      walk_at "q"
      refine ⟨d, _, 0, _, rfl, rfl, SqL.of hd', rfl, ?_⟩
      walk_at "q"
      refine r_neg (by decide) ?_
      walk_at "q"
      refine ⟨d, _, 4, _, rfl, rfl, SqL.of hd', rfl, ?_⟩
      walk_at "q"
      refine ⟨d, _, 4, 4, rfl, rfl, hd', rfl, ?_⟩
      generalize hu : upd H d _ = H1
      have hd1 : H1 d = some (.lst [.int 1, .int 0, .ref l.na, .ref l.ea, .int ((i : Nat) + 1 : Int), .int (j : Nat)]) := by rw [← hu, upd_same]; rfl
      have q1 : KpA d H H1 := by rw [← hu]; exact KpA.upd
      clear hu
      walk_at "q"
      refine ⟨d, _, 2, _, rfl, rfl, SqL.of hd1, rfl, ?_⟩
      walk_at "q"
      refine ⟨d, _, 4, _, rfl, rfl, SqL.of hd1, rfl, ?_⟩
      walk_at "q"
      refine .inl ⟨_, rfl, ?_⟩
      walk_at "q"
      refine ⟨d, _, 2, _, rfl, rfl, SqL.of hd1, rfl, ?_⟩
      walk_at "q"
      refine ⟨l.na, _, rfl, .inl (SqL.of (q1 _ _ n1 hn)), ?_⟩
      walk_at "q"
      refine r_I (by rw [List.length_map]; omega) ?_
      rw [List.length_map, show ((i : Nat) : Int) + 1 - 1 = ((i : Nat) : Int) by omega, show ((i : Nat) : Int) % (ns.length : Int) = ((i % ns.length : Nat) : Int) by simp]
      refine ⟨l.na, _, _, _, rfl, rfl, SqL.of (q1 _ _ n1 hn), at_mod k1 i, ?_⟩
      walk_at "q"
      refine .inl ⟨_, rfl, ?_⟩
      walk_at "q"
      refine ⟨t, _, 5, _, rfl, rfl, SqT.of (q1 _ _ nt ht'), rfl, ?_⟩
      refine r_I z.qpos ?_
      exact h _ q1 ⟨by rw [hd1, Int.natCast_succ], q1 _ _ n1 hn, q1 _ _ n2 he⟩
theorem clamp_eq (x : Int) (e : Nat) : clampI x e = if (e : Int) < (if x < 0 then -x else x) then (if 0 < x then (e : Int) else -(e : Int)) else x := by
  unfold clampI
  split <;> split <;> (try split) <;> (try split) <;> omega
theorem ok_noise2 (T : Txt K mg) (c_law_step : C8.Cal P w K mg base 1 "_law_step" spStep []) : C8.Cal P w K mg base 2 "_law_noise" (spAnyPen spNoi2) [] := by
  have S : FnScope ["_law_dr", "_law_sz", "_law_e", "_law_x"] ["_law_dr", "_law_sz"] (C8.fnScope (top 67)) := C8.fnScope_by (by decide +kernel)
  refine cal_of T.f_law_noise T.g_law_noise S (fun _ _ _ _ _ _ us hl => match us, hl with | [_, _], _ => rfl) (fun vs H Q E h => ?_) (fun cdv A outer s H vs Q E hr h => ?_)
  · obtain ⟨p, d, t, z, l, rfl, _⟩ := h
    rfl
  · obtain ⟨p, d, t, z, l, rfl, o, ht, hd, pok, h⟩ := h
    refine ⟨_, (pss_cons (ps_set (i := 2) S.nd rfl (Or.inl rfl) (pe_ix (ix_tupK (K := K) rfl) (pv 1) pe_int (fun _ _ => rfl)))
      (pss_cons (ps_if (pt_cmpR op_eq (pe_ix (ix_listK (K := K) rfl) (pv 0) pe_int (fun _ _ => rfl)) pe_int (nomark _)) (pss_one (ps_ret (pe_op op_sub (pe_op op_mod (pe_callTy call_int1 rfl T.z_int (by decide +kernel) (pa_cons (C8.pe_c c_law_step hr (by decide) rfl (pa_cons (pv 0) pa_nil)) pa_nil)) (pe_op op_add (pe_op op_mul pe_int (pv 2)) pe_int)) (pv 2)))) pss_nil)
      (pss_cons (ps_asg (pe_op op_add (pe_ix (ix_listK (K := K) rfl) (pv 0) pe_int (fun _ _ => rfl)) pe_int) (pg_sub (pv 0) pe_int set_list))
      (pss_cons (ps_set (i := 3) S.nd rfl (Or.inl rfl) (pe_ix (ix_listK (K := K) rfl) (pe_ix (ix_listK (K := K) rfl) (pv 0) pe_int (fun _ _ => rfl)) (pe_op op_mod (pe_callTy call_int1 rfl T.z_int (by decide +kernel) (pa_cons (pe_op op_sub (pe_ix (ix_listK (K := K) rfl) (pv 0) pe_int (fun _ _ => rfl)) pe_int) pa_nil)) (pe_callB call_len_seq rfl T.z_len (by decide +kernel) (pa_cons (pe_ix (ix_listK (K := K) rfl) (pv 0) pe_int (fun _ _ => rfl)) pa_nil))) (fun _ _ => rfl)))
      (pss_cons (ps_if (pt_cmpR op_gt (pe_callB call_abs rfl T.z_abs (by decide +kernel) (pa_cons (pv 3) pa_nil)) (pv 2) (nomark _)) (pss_one (ps_ret (pe_ifExp (pt_cmpR op_gt (pv 3) pe_int (nomark _)) (pv 2) (pe_un un_neg (pv 2))))) pss_nil)
      (pss_one (ps_ret (pv 3)))))))), ?_⟩
    have nt := hd.ne_tup ht
    have e1 := o.e1
    have ht' : H t = some (.tup [.int z.n, .int z.m, .int z.B, .int z.l, .int z.e, .int z.q]) := ht
    walk_at "q"
    refine ⟨t, _, 4, _, rfl, rfl, SqT.of ht', rfl, ?_⟩
    walk_at "q"
    cases p with
    | made st =>
      have hd' : H d = some (.lst [.int 0, .int st, .ref l.na, .ref l.ea, .int 0, .int 0]) := hd
      refine ⟨d, _, 0, _, rfl, rfl, SqL.of hd', rfl, ?_⟩
      walk_at "q"
      refine r_pos rfl ?_
      walk_at "q"
      refine ⟨d, _, _, st, rfl, hd', ?_⟩
      walk_at "q"
      refine .inl ⟨_, rfl, ?_⟩
      walk_at "q"
      refine r_I (.inl ⟨by decide, by decide⟩) ?_
      walk_at "q"
      refine r_I (by omega) ?_
      walk_at "q"
      exact h _ KpA.upd upd_same
    | lst ns es i j =>
      obtain ⟨hd', hn, he⟩ := id hd
      obtain ⟨k1, k2, k3, k4⟩ := id pok
      have nl := List.length_pos_iff.mpr k2
      have n1 := hd.ne_int hn
      have n2 := hd.ne_int he
      refine ⟨d, _, 0, _, rfl, rfl, SqL.of hd', rfl, ?_⟩
      walk_at "q"
      refine r_neg (by decide) ?_
      walk_at "q"
      refine ⟨d, _, 5, _, rfl, rfl, SqL.of hd', rfl, ?_⟩
      walk_at "q"
      refine ⟨d, _, 5, 5, rfl, rfl, hd', rfl, ?_⟩
      generalize hu : upd H d _ = H1
      have hd1 : H1 d = some (.lst [.int 1, .int 0, .ref l.na, .ref l.ea, .int (i : Nat), .int ((j : Nat) + 1 : Int)]) := by rw [← hu, upd_same]; rfl
      have q1 : KpA d H H1 := by rw [← hu]; exact KpA.upd
      clear hu
      walk_at "q"
      refine ⟨d, _, 3, _, rfl, rfl, SqL.of hd1, rfl, ?_⟩
      walk_at "q"
      refine ⟨d, _, 5, _, rfl, rfl, SqL.of hd1, rfl, ?_⟩
      walk_at "q"
      refine .inl ⟨_, rfl, ?_⟩
      walk_at "q"
      refine ⟨d, _, 3, _, rfl, rfl, SqL.of hd1, rfl, ?_⟩
      walk_at "q"
      refine ⟨l.ea, _, rfl, .inl (SqL.of (q1 _ _ n2 he)), ?_⟩
      walk_at "q"
      refine r_I (by rw [List.length_map]; omega) ?_
      rw [List.length_map, show ((j : Nat) : Int) + 1 - 1 = ((j : Nat) : Int) by omega, show ((j : Nat) : Int) % (es.length : Int) = ((j % es.length : Nat) : Int) by simp]
      refine ⟨l.ea, _, _, _, rfl, rfl, SqL.of (q1 _ _ n2 he), at_mod k2 j, ?_⟩
      have hh := h _ q1 ⟨by rw [hd1, Int.natCast_succ], q1 _ _ n1 hn, q1 _ _ n2 he⟩
      revert hh
      show Q (.int (clampI (es.getD (j % es.length) 0) z.e)) H1 → _
      rw [clamp_eq]
      intro hh
      walk_at "q"
      refine ⟨_, rfl, ?_⟩
      walk_at "q"
      refine r_ite (fun c => ?_) fun c => ?_
      · rw [if_pos c] at hh
        walk_at "q"
        refine r_ite (fun c2 => ?_) fun c2 => ?_
        · walk_at "q"
          rw [if_pos c2] at hh
          exact hh
        · walk_at "q"
          rw [if_neg c2] at hh
          exact hh
      · rw [if_neg c] at hh
        walk_at "q"
        exact hh
end
end K20

set_option Elab.async false
set_option linter.all false
set_option maxRecDepth 100000
set_option maxHeartbeats 4000000
namespace K20
open PySem PySem.Spec PyProof.Rows L2
local macro_rules | `(tactic| walk_at "q1") => `(tactic| first
  | with_reducible refine r_seq ?_ | with_reducible refine r_asg ?_ | with_reducible refine r_name ?_ | with_reducible refine r_ret ?_ | with_reducible refine r_ifS ?_ | with_reducible refine r_next ?_ | with_reducible refine r_drop ?_
  | ((with_reducible show tVar _ _ _ _); refine ⟨_, rfl, ?_⟩) | with_reducible refine r_c ?_ | with_reducible refine r_op ?_ | with_reducible refine r_un ?_ | with_reducible refine r_I0 ?_ | with_reducible refine r_U ?_
  | with_reducible refine r_eqI ?_ | with_reducible refine r_neI ?_ | with_reducible refine r_neB ?_ | with_reducible refine r_cb ?_ | with_reducible refine r_cons ?_ | with_reducible refine r_nil ?_ | with_reducible refine r_test ?_ | with_reducible refine r_tB ?_
  | with_reducible refine r_bl ?_ | with_reducible refine r_not ?_ | with_reducible refine r_notV ?_ | with_reducible refine r_and ?_ | with_reducible refine r_or ?_ | with_reducible refine r_andV ?_ | with_reducible refine r_orV ?_ | with_reducible refine r_if ?_
  | with_reducible refine r_T ?_ | with_reducible refine r_F ?_ | with_reducible refine r_NT ?_ | with_reducible refine r_NF ?_ | with_reducible refine r_call ?_ | with_reducible refine r_meth ?_ | with_reducible refine r_int1 ?_ | with_reducible refine r_fld ?_
  | with_reducible refine r_tup ?_ | with_reducible refine r_lst ?_ | with_reducible refine r_par ?_ | with_reducible refine r_par3 ?_ | with_reducible refine r_two ?_ | with_reducible refine r_three ?_ | with_reducible refine r_abs ?_ | with_reducible refine r_max ?_
  | with_reducible refine r_cut ?_ | with_reducible refine r_callS ?_ | with_reducible refine r_zipA ?_ | with_reducible refine r_isN ?_ | with_reducible refine r_lc ?_ | with_reducible refine r_lc2 ?_ | with_reducible refine r_mkB ?_ | with_reducible refine r_for ?_ | with_reducible refine r_iList ?_ | with_reducible refine r_iTup ?_ | with_reducible refine r_revL ?_ | with_reducible refine r_star ?_ | with_reducible refine r_bits ?_ | with_reducible refine r_iRng ?_ | with_reducible refine r_iEnum ?_ | with_reducible refine r_iZip ?_ | with_reducible refine r_sub ?_ | with_reducible refine r_sfld ?_ | with_reducible refine r_bm ?_
  | with_reducible refine r_methK ?_ | with_reducible refine r_methS ?_ | with_reducible refine r_make ?_ | with_reducible refine r_mod ?_ | with_reducible refine r_gtup ?_ | with_reducible refine r_gcons ?_ | with_reducible refine r_gnil ?_ | with_reducible refine r_slc ?_ | with_reducible refine r_part ?_ | with_reducible refine r_noPart ?_)
local macro_rules | `(tactic| walk_at "nw") => `(tactic| (intro p hp; generalize hu : upd _ p _ = H1; obtain ⟨s1, hp1⟩ := nwx hp hu; clear hu))
local macro_rules | `(tactic| walk_at "q") => `(tactic| repeat walk_at "q1")
section
variable {P : Program} {w : World} {K : Fr} {mg : Str → Option Value} {base : Heap}
/-! ### the law's split, phase, covers of its own -/
def spSplit : Sp := fun vs H Q _ => ∃ (t : Addr) (z : Sz) (x : Int), vs = [.int x, .ref t] ∧ z.Ok ∧ TzAt z t H ∧ ∀ r H', H r = none → Same H H' → H' r = some (intL (spl z.B z.h ((x + shAt z.B z.h z.l) % z.q) z.l)) → Q (.ref r) H'
theorem Bpow_nn (z : Sz) (i : Nat) : 0 ≤ z.B ^ i := by
  have : (0 : Int) < z.B ^ i := by
    unfold Sz.B
    rw [← Int.pow_mul]
    exact pow_pos_int _
  omega
theorem Bdiv {z : Sz} (o : z.Ok) : z.B / 2 = z.h := by rw [Sz.B2 o]; omega
theorem ok_split (T : Txt K mg) : C8.Cal P w K mg base 1 "_law_split" spSplit [] := by
  have S : FnScope ["_law_x", "_law_sz", "_law_half", "_law_base", "_law_shift_y", "_law_power", "_law_j", "_law_rest", "_law_found"] ["_law_x", "_law_sz"] (C8.fnScope (top 73)) := C8.fnScope_by (by decide +kernel)
  refine cal_of T.f_law_split T.g_law_split S (fun _ _ _ _ _ _ us hl => match us, hl with | [_, _], _ => rfl) (fun vs H Q E h => ?_) (fun cdv A outer s H vs Q E hr h => ?_)
  · obtain ⟨t, z, x, rfl, _⟩ := h
    rfl
  · obtain ⟨t, z, x, rfl, o, ht, h⟩ := h
    have ht' : H t = some (.tup [.int z.n, .int z.m, .int z.B, .int z.l, .int z.e, .int z.q]) := ht
    refine ⟨_, (pss_cons (ps_par (i := 2) (j := 3) rfl S.nd rfl rfl (by decide) rfl rfl (pa_cons (pe_op op_fdiv (pe_ix (ix_tupK (K := K) rfl) (pv 1) pe_int (fun _ _ => rfl)) pe_int) (pa_cons (pe_ix (ix_tupK (K := K) rfl) (pv 1) pe_int (fun _ _ => rfl)) pa_nil)) (by rfl))
      (pss_cons (ps_asg (pe_tup (pa_cons pe_int (pa_cons pe_int pa_nil))) (pg_tupK (K := K) (n := 2) rfl rfl (pgs_cons (pg_name (i := 4) S.nd rfl (Or.inl rfl)) (pgs_cons (pg_name (i := 5) S.nd rfl (Or.inl rfl)) pgs_nil))))
      (pss_cons (ps_for PassesOwn.never rfl (pi_range1 rfl T.z_range (pa_cons (pe_ix (ix_tupK (K := K) rfl) (pv 1) pe_int (fun _ _ => rfl)) pa_nil)) (pg_name (i := 6) S.nd rfl (Or.inl rfl)) (pss_cons (ps_set (i := 4) S.nd rfl (Or.inl rfl) (pe_op op_add (pv 4) (pe_op op_mul (pv 2) (pv 5))))
      (pss_one (ps_set (i := 5) S.nd rfl (Or.inl rfl) (pe_op op_mul (pv 5) (pv 3))))))
      (pss_cons (ps_par (i := 7) (j := 8) rfl S.nd rfl rfl (by decide) rfl rfl (pa_cons (pe_op op_mod (pe_callTy call_int1 rfl T.z_int (by decide +kernel) (pa_cons (pe_op op_add (pv 0) (pv 4)) pa_nil)) (pe_ix (ix_tupK (K := K) rfl) (pv 1) pe_int (fun _ _ => rfl))) (pa_cons (pe_lst pa_nil) pa_nil)) (by rfl))
      (pss_cons (ps_for PassesOwn.never rfl (pi_range1 rfl T.z_range (pa_cons (pe_ix (ix_tupK (K := K) rfl) (pv 1) pe_int (fun _ _ => rfl)) pa_nil)) (pg_name (i := 6) S.nd rfl (Or.inl rfl)) (pss_cons (ps_expr (pe_bm PySem.F.plainAttrs_list PySem.F.slot_list_append PySem.F.type_list_append mt_append (pv 8) (pa_cons (pe_op op_sub (pe_op op_mod (pe_callTy call_int1 rfl T.z_int (by decide +kernel) (pa_cons (pv 7) pa_nil)) (pv 3)) (pv 2)) pa_nil)))
      (pss_one (ps_set (i := 7) S.nd rfl (Or.inl rfl) (pe_op op_fdivW (pv 7) (pv 3))))))
      (pss_one (ps_ret (pv 8)))))))), ?_⟩
    have l8 := o.l8
    have bp := z.Bpos
    have ble := Sz.Ble o
    have hle := Sz.hle o
    have hp := z.hpos
    walk_at "q"
    refine ⟨t, _, 2, _, rfl, rfl, SqT.of ht', rfl, ?_⟩
    walk_at "q"
    refine r_I ⟨by decide, by decide⟩ ?_
    rw [Bdiv o]
    walk_at "q"
    refine ⟨t, _, 2, _, rfl, rfl, SqT.of ht', rfl, ?_⟩
    walk_at "q"
    refine ⟨(show (2 : Nat) ≤ sizeLine by decide), ?_⟩
    walk_at "nw"
    rename_i p1 n1 H1 s1 hp1
    walk_at "q"
    refine ⟨p1, _, rfl, SqT.of hp1, rfl, ?_⟩
    walk_at "q"
    refine ⟨t, _, 3, _, rfl, rfl, SqT.of (s1 _ _ ht'), rfl, ?_⟩
    walk_at "q"
    refine ⟨_, rfl, by omega, by omega, ?_⟩
    refine for_it (walk_range (n := (z.l : Int).toNat)) (fun i σ H' => ∃ v6, σ = [some (.int x), some (.ref t), some (.int z.h), some (.int z.B), some (.int (shAt z.B z.h i)), some (.int (z.B ^ i)), v6, none, none] ∧ H' = H1) ⟨_, rfl, rfl⟩ (fun _ _ _ _ _ => trivial) ?_ ?_
    · rintro i v σ H2 H3 hi ⟨v6, rfl, rfl⟩ ⟨rfl, rfl⟩
      walk_at "q"
      refine r_I (.inl ⟨by omega, by omega⟩) ?_
      walk_at "q"
      refine r_I (.inr ⟨by omega, by omega⟩) ?_
      walk_at "q"
      exact ⟨_, by rw [Int.pow_succ]; rfl, rfl⟩
    rw [Int.toNat_natCast]
    rintro σ H2 ⟨v6, rfl, rfl⟩
    walk_at "q"
    refine .inl ⟨_, rfl, ?_⟩
    walk_at "q"
    refine ⟨t, _, 5, _, rfl, rfl, SqT.of (s1 _ _ ht'), rfl, ?_⟩
    refine r_I z.qpos ?_
    walk_at "q"
    refine ⟨by decide, ?_⟩
    walk_at "nw"
    rename_i p2 n2 H3 s3 hp2
    walk_at "q"
    refine ⟨t, _, 3, _, rfl, rfl, SqT.of (s3 _ _ (s1 _ _ ht')), rfl, ?_⟩
    walk_at "q"
    refine ⟨_, rfl, by omega, by omega, ?_⟩
    have n2H : H p2 = none := Same.back s1 n2
    have s13 := s1.trans s3
    generalize hr : (x + shAt z.B z.h z.l) % z.q = rr at h ⊢
    refine for_it (walk_range (n := (z.l : Int).toNat)) (fun i σ H' => ∃ v6, σ = [some (.int x), some (.ref t), some (.int z.h), some (.int z.B), some (.int (shAt z.B z.h z.l)), some (.int (z.B ^ z.l)), v6, some (.int (restAt z.B rr i)), some (.ref p2)] ∧ Same H H' ∧ H' p2 = some (intL (spl z.B z.h rr i))) ⟨_, rfl, s13, hp2⟩ (fun _ _ _ _ _ => trivial) ?_ ?_
    · rintro i v σ H4 H5 hi ⟨v6, rfl, s4, hp4⟩ ⟨rfl, rfl⟩
      walk_at "q"
      refine ⟨.inl ⟨rfl, _, SqL.of hp4⟩, ?_⟩
      walk_at "q"
      refine .inl ⟨_, rfl, ?_⟩
      walk_at "q"
      refine r_I bp ?_
      walk_at "q"
      refine ⟨_, _, _, rfl, rfl, hp4, Nat.lt_of_le_of_lt (m := 1000) (by rw [List.length_map, spl_length]; omega) (by decide), ?_⟩
      walk_at "q"
      refine r_I (wide_div (b := 40) bp (by omega) (by decide) (by decide)) ?_
      walk_at "q"
      refine ⟨_, rfl, fun a u e => by rw [upd_ne (ne_of_none e n2H)]; exact s4 a u e, ?_⟩
      rw [upd_same]
      show _ = some (HO.lst (List.map V.int (spl z.B z.h rr i ++ [restAt z.B rr i % z.B - z.h])))
      rw [List.map_append]; rfl
    · rw [Int.toNat_natCast]
      rintro σ H4 ⟨v6, rfl, s4, hp4⟩
      walk_at "q"
      exact h p2 H4 n2H s4 hp4
def spLPhase : Sp := fun vs H Q _ => ∃ (a b : Addr) (ms bs : List Int) (y q : Int), vs = [.ref a, .int y, .ref b, .int q] ∧ 0 < q ∧ H a = some (intL ms) ∧ H b = some (intL bs) ∧ ms.length ≤ 1000 ∧ (∀ x ∈ bs, 0 ≤ x ∧ x ≤ 1) ∧ ∀ H', Same H H' → Q (.int (mid (y - dotZ ms bs) q)) H'
theorem ok_lphase (T : Txt K mg) (c_law_mid : C8.Cal P w K mg base 1 "_law_mid" spMid []) : C8.Cal P w K mg base 2 "_law_phase" spLPhase [] := by
  have S : FnScope ["_law_mask", "_law_body_y", "_law_s", "_law_q", "_law_a", "_law_t"] ["_law_mask", "_law_body_y", "_law_s", "_law_q"] (C8.fnScope (top 74)) := C8.fnScope_by (by decide +kernel)
  refine cal_of T.f_law_phase T.g_law_phase S (fun _ _ _ _ _ _ us hl => match us, hl with | [_, _, _, _], _ => rfl) (fun vs H Q E h => ?_) (fun cdv A outer s H vs Q E hr h => ?_)
  · obtain ⟨a, b, ms, bs, y, q, rfl, _⟩ := h
    rfl
  · obtain ⟨a, b, ms, bs, y, q, rfl, q0, hm, hb, hl, bb, h⟩ := h
    refine ⟨_, (pss_one (ps_ret (C8.pe_c c_law_mid hr (by decide) rfl (pa_cons (pe_op op_sub (pv 1) (pe_callB (cr_sum rfl) rfl T.z_sum (by decide +kernel) (pa_cons (pe_lc (own := [("_law_a", 4), ("_law_t", 5)]) rfl S.nd (pi_zip rfl T.z_zip (pa_cons (pv 0) (pa_cons (pv 2) pa_nil))) (blkOk_by (N := ["_law_mask", "_law_body_y", "_law_s", "_law_q", "_law_a", "_law_t"]) (sc := C8.fnScope (top 74)) (by decide +kernel)) (fun _ _ _ _ _ => (pg_tupK (K := K) (n := 2) rfl rfl (pgs_cons (pg_name (i := 4) S.nd rfl (Or.inl rfl)) (pgs_cons (pg_name (i := 5) S.nd rfl (Or.inl rfl)) pgs_nil)))) (fun _ _ _ _ _ => pts_nil) (fun _ _ _ _ _ => (pe_op op_mul (pv 4) (pv 5)))) pa_nil))) (pa_cons (pv 3) pa_nil))))), ?_⟩
    walk_at "q"
    refine ⟨a, b, _, _, rfl, SqL.of hm, SqL.of hb, ?_⟩
    intro D hD
    refine lc_inv (walk_zip rfl) hD (fun i acc H' => acc = ((List.zipWith (· * ·) ms bs).take i).map V.int ∧ Same H H') ⟨rfl, Same.refl _⟩ (fun i acc H' o ⟨e, s⟩ => ⟨e, fun b u e => by rw [upd_ne (ne_of_none e hD)]; exact s b u e⟩) (fun i acc H' ⟨_, s⟩ => ⟨SqL.of (s _ _ hm), SqL.of (s _ _ hb)⟩) (by simp; omega) ?_ ?_
    · rintro i acc v H4 H5 hi hla ⟨e, s4⟩ hD2 ⟨Tp, y1, z1, rfl, hT, rfl, hy, hz⟩ Kc kc
      obtain ⟨m, hm1, rfl⟩ := lst_at hy
      obtain ⟨b, hb1, rfl⟩ := lst_at hz
      obtain ⟨q1, q2⟩ := bb b (List.mem_of_getElem? hb1)
      refine ⟨_, _, rfl, SqT.of upd_same, rfl, ?_⟩
      walk_at "q"
      refine ⟨rfl, ?_⟩
      walk_at "q"
      refine r_I (.inr ⟨by omega, by omega⟩) ?_
      refine kc _ _ (by rw [upd_ne (ne_of_none hD2 hT)]; exact hD2) ⟨?_, s4.trans (same_upd hT)⟩
      rw [e, List.take_add_one, zw_at hm1 hb1, List.map_append]
      rfl
    · rintro acc H4 hla ⟨e, s4⟩ hD2
      walk_at "q"
      have e2 : acc = (List.zipWith (· * ·) ms bs).map V.int := by rw [e, List.take_of_length_le (by simp)]
      rw [e2] at hD2
      refine ⟨D, _, rfl, SqL.of hD2, ?_⟩
      walk_at "q"
      exact ⟨_, _, rfl, q0, h _ s4⟩
/-! own covers -/
def OcAt (c : Cov) (a : Addr) (H : Hp) : Prop := ∃ ml, H a = some (.tup [.ref ml, .int c.y]) ∧ H ml = some (intL c.m)
theorem OcAt.same {c : Cov} {a : Addr} {H H' : Hp} (h : OcAt c a H) (s : Same H H') : OcAt c a H' := let ⟨m, e, f⟩ := h; ⟨m, s _ _ e, s _ _ f⟩
theorem OcAt.kp {c : Cov} {a d : Addr} {p : Pen} {l : Pl} {H H' : Hp} (h : OcAt c a H) (hd : DrAt p d l H) (k : KpA d H H') : OcAt c a H' := let ⟨m, e, f⟩ := h; ⟨m, k _ _ (hd.ne_tup e) e, k _ _ (hd.ne_int f) f⟩
theorem OcAt.app {c : Cov} {a r : Addr} {as : List Addr} {o : HO} {H : Hp} (h : OcAt c a H) (hr : H r = some (refL as)) (hm : c.m ≠ []) : OcAt c a (upd H r o) := by
  obtain ⟨ml, e, f⟩ := h
  exact ⟨ml, by rw [upd_ne (ne_ins e hr fun q => by cases q)]; exact e, by rw [upd_ne (ne_ins f hr (intL_refL hm))]; exact f⟩
/-- the pen's own lists, where they must not be touched -/
structure PlOk (l : Pl) (H : Hp) : Prop where
  na : H l.na ≠ none
  ea : H l.ea ≠ none
def spOwnCov : Sp := fun vs H Q _ => ∃ (t sa d : Addr) (z : Sz) (bs : List Int) (r : Int) (p : Pen) (l : Pl), vs = [.ref t, .ref sa, .int r, .ref d] ∧ z.Ok ∧ TzAt z t H ∧ H sa = some (intL bs) ∧ (∀ x ∈ bs, 0 ≤ x ∧ x ≤ 1) ∧ DrAt p d l H ∧ PlOk l H ∧ p.Ok ∧
  ∀ c H', H c = none → KpA d H H' → DrAt (coverOf z bs p r).2 d l H' → OcAt (coverOf z bs p r).1 c H' → Q (.ref c) H'
theorem ok_own_cover (T : Txt K mg) (c_law_residue : C8.Cal P w K mg base 2 "_law_residue" (spAnyPen spRes2) []) (c_law_noise : C8.Cal P w K mg base 2 "_law_noise" (spAnyPen spNoi2) []) : C8.Cal P w K mg base 3 "_law_own_cover" spOwnCov [] := by
  have S : FnScope ["_law_sz", "_law_s", "_law_r", "_law_dr", "_law_mask", "_law_more", "_law_k", "_law_a", "_law_t"] ["_law_sz", "_law_s", "_law_r", "_law_dr"] (C8.fnScope (top 71)) := C8.fnScope_by (by decide +kernel)
  refine cal_of T.f_law_own_cover T.g_law_own_cover S (fun _ _ _ _ _ _ us hl => match us, hl with | [_, _, _, _], _ => rfl) (fun vs H Q E h => ?_) (fun cdv A outer s H vs Q E hr h => ?_)
  · obtain ⟨t, sa, d, z, bs, r, p, l, rfl, _⟩ := h
    rfl
  · obtain ⟨t, sa, d, z, bs, r, p, l, rfl, o, ht, hs, bb, hd, hpl, pok, h⟩ := h
    have ht' : H t = some (.tup [.int z.n, .int z.m, .int z.B, .int z.l, .int z.e, .int z.q]) := ht
    refine ⟨_, (pss_cons (ps_setLc (i := 4) (own := [("_law_k", 6)]) rfl S.nd rfl rfl (sw_true rfl rfl rfl (by decide +kernel)) (pi_range1 rfl T.z_range (pa_cons (pe_ix (ix_tupK (K := K) rfl) (pv 0) pe_int (fun _ _ => rfl)) pa_nil)) (blkOk_by (N := ["_law_sz", "_law_s", "_law_r", "_law_dr", "_law_mask", "_law_more", "_law_k", "_law_a", "_law_t"]) (sc := C8.fnScope (top 71)) (by decide +kernel)) (fun _ _ _ _ _ => (pg_name (i := 6) S.nd rfl (Or.inl rfl))) (fun _ _ _ _ _ => pts_nil) (fun _ _ _ _ _ => (C8.pe_c c_law_residue hr (by decide) rfl (pa_cons (pv 3) (pa_cons (pv 0) pa_nil)))))
      (pss_cons (ps_set (i := 5) S.nd rfl (Or.inl rfl) (pe_op op_add (pv 2) (C8.pe_c c_law_noise hr (by decide) rfl (pa_cons (pv 3) (pa_cons (pv 0) pa_nil)))))
      (pss_one (ps_ret (pe_tup (pa_cons (pv 4) (pa_cons (pe_op op_mod (pe_callTy call_int1 rfl T.z_int (by decide +kernel) (pa_cons (pe_op op_add (pe_callB (cr_sum rfl) rfl T.z_sum (by decide +kernel) (pa_cons (pe_lc (own := [("_law_a", 7), ("_law_t", 8)]) rfl S.nd (pi_zip rfl T.z_zip (pa_cons (pv 4) (pa_cons (pv 1) pa_nil))) (blkOk_by (N := ["_law_sz", "_law_s", "_law_r", "_law_dr", "_law_mask", "_law_more", "_law_k", "_law_a", "_law_t"]) (sc := C8.fnScope (top 71)) (by decide +kernel)) (fun _ _ _ _ _ => (pg_tupK (K := K) (n := 2) rfl rfl (pgs_cons (pg_name (i := 7) S.nd rfl (Or.inl rfl)) (pgs_cons (pg_name (i := 8) S.nd rfl (Or.inl rfl)) pgs_nil)))) (fun _ _ _ _ _ => pts_nil) (fun _ _ _ _ _ => (pe_op op_mul (pv 7) (pv 8)))) pa_nil)) (pv 5)) pa_nil)) (pe_ix (ix_tupK (K := K) rfl) (pv 0) pe_int (fun _ _ => rfl))) pa_nil))))))), ?_⟩
    have n8 := o.n8
    have nt := hd.ne_tup ht
    have ns := hd.ne_int hs
    walk_at "q"
    refine ⟨t, _, 0, _, rfl, rfl, SqT.of ht', rfl, ?_⟩
    walk_at "q"
    refine ⟨_, rfl, by omega, by omega, ?_⟩
    intro D hD
    have off := hd.off hD hpl.na hpl.ea
    refine lc_inv (walk_range (n := (z.n : Int).toNat)) hD (fun i acc H' => acc = (maskOf z p i).1.map V.int ∧ KpA d H H' ∧ DrAt (maskOf z p i).2 d l H') ⟨rfl, KpA.refl, hd⟩ (fun i acc H' o ⟨e, k, q⟩ => ⟨e, fun b u n e => by rw [upd_ne (ne_of_none e hD)]; exact k b u n e, q.upd off⟩) (fun _ _ _ _ => trivial) (by omega) ?_ ?_
    · rintro i acc v H4 H5 hi hla ⟨e, k4, p4⟩ hD2 ⟨rfl, rfl⟩ Kc kc
      walk_at "q"
      refine ⟨rfl, ?_⟩
      walk_at "q"
      refine ⟨_, d, t, z, l, rfl, o, k4 _ _ nt ht, p4, maskOf_ok pok i, fun H6 k6 p6 => ?_⟩
      refine kc _ _ (k6 _ _ off.1 hD2) ⟨?_, k4.trans k6, p6⟩
      rw [e]
      show _ = List.map V.int ((maskOf z p i).1 ++ [((maskOf z p i).2.resid z).1])
      rw [List.map_append]
      rfl
    rw [Int.toNat_natCast]
    rintro acc H4 hla ⟨e, k4, p4⟩ hD2
    rw [e] at hD2
    walk_at "q"
    refine ⟨_, d, t, z, l, rfl, o, k4 _ _ nt ht, p4, maskOf_ok pok z.n, fun H6 k6 p6 => ?_⟩
    have hD6 := k6 _ _ off.1 hD2
    have k06 := k4.trans k6
    have hs6 := k06 _ _ ns hs
    have ht6 := k06 _ _ nt ht'
    walk_at "q"
    refine ⟨D, sa, _, _, rfl, SqL.of hD6, SqL.of hs6, ?_⟩
    intro D2 nD2
    refine lc_inv (walk_zip rfl) nD2 (fun i acc H' => acc = ((List.zipWith (· * ·) (maskOf z p z.n).1 bs).take i).map V.int ∧ Same H6 H') ⟨rfl, Same.refl _⟩ (fun i acc H' o ⟨e, s⟩ => ⟨e, fun b u e => by rw [upd_ne (ne_of_none e nD2)]; exact s b u e⟩) (fun i acc H' ⟨_, s⟩ => ⟨SqL.of (s _ _ hD6), SqL.of (s _ _ hs6)⟩) (by simp [maskOf_len]; omega) ?_ ?_
    · rintro i acc v H7 H8 hi hla ⟨e, s7⟩ hD7 ⟨Tp, y1, z1, rfl, hT, rfl, hy, hz⟩ Kc kc
      obtain ⟨m, hm1, rfl⟩ := lst_at hy
      obtain ⟨b, hb1, rfl⟩ := lst_at hz
      obtain ⟨q1, q2⟩ := bb b (List.mem_of_getElem? hb1)
      refine ⟨_, _, rfl, SqT.of upd_same, rfl, ?_⟩
      walk_at "q"
      refine ⟨rfl, ?_⟩
      walk_at "q"
      refine r_I (.inr ⟨by omega, by omega⟩) ?_
      refine kc _ _ (by rw [upd_ne (ne_of_none hD7 hT)]; exact hD7) ⟨?_, s7.trans (same_upd hT)⟩
      rw [e, List.take_add_one, zw_at hm1 hb1, List.map_append]
      rfl
    rintro acc H7 hla ⟨e7, s7⟩ hD7
    have e7 : acc = (List.zipWith (· * ·) (maskOf z p z.n).1 bs).map V.int := by rw [e7, List.take_of_length_le (by simp)]
    rw [e7] at hD7
    walk_at "q"
    refine ⟨D2, _, rfl, SqL.of hD7, ?_⟩
    walk_at "q"
    refine .inl ⟨_, rfl, ?_⟩
    walk_at "q"
    refine ⟨t, _, 5, _, rfl, rfl, SqT.of (s7 _ _ ht6), rfl, ?_⟩
    refine r_I z.qpos ?_
    walk_at "q"
    refine ⟨(show (2 : Nat) ≤ sizeLine by decide), fun c nc => ?_⟩
    generalize hu : upd H7 c _ = H8
    obtain ⟨s8, hc8⟩ := nwx nc hu
    clear hu
    have nc6 := Same.back s7 nc
    obtain ⟨k6', x6, y6, z6, u6, v6, hd6⟩ := p6.at_
    have ncd : c ≠ d := fun e => by rw [e, hd6] at nc6; cases nc6
    have ncH : H c = none := by
      cases q : H c with
      | none => rfl
      | some u => rw [k06 _ _ ncd q] at nc6; cases nc6
    have s68 := s7.trans s8
    refine h c H8 ncH (k06.trans (KpA.of s68)) (p6.same s68) ⟨D, ?_, s68 _ _ hD6⟩
    rw [hc8]
    show _ = some (HO.tup [.ref D, .int ((dotZ (maskOf z p z.n).1 bs + r + ((maskOf z p z.n).2.noise z).1) % z.q)])
    rw [Int.add_assoc]
    rfl
end
end K20

set_option Elab.async false
set_option linter.all false
set_option maxRecDepth 100000
set_option maxHeartbeats 4000000
namespace K20
open PySem PySem.Spec PyProof.Rows L2
local macro_rules | `(tactic| walk_at "q1") => `(tactic| first
  | with_reducible refine r_seq ?_ | with_reducible refine r_asg ?_ | with_reducible refine r_name ?_ | with_reducible refine r_ret ?_ | with_reducible refine r_ifS ?_ | with_reducible refine r_next ?_ | with_reducible refine r_drop ?_
  | ((with_reducible show tVar _ _ _ _); refine ⟨_, rfl, ?_⟩) | with_reducible refine r_c ?_ | with_reducible refine r_op ?_ | with_reducible refine r_un ?_ | with_reducible refine r_I0 ?_ | with_reducible refine r_U ?_
  | with_reducible refine r_eqI ?_ | with_reducible refine r_neI ?_ | with_reducible refine r_neB ?_ | with_reducible refine r_cb ?_ | with_reducible refine r_cons ?_ | with_reducible refine r_nil ?_ | with_reducible refine r_test ?_ | with_reducible refine r_tB ?_
  | with_reducible refine r_bl ?_ | with_reducible refine r_not ?_ | with_reducible refine r_notV ?_ | with_reducible refine r_and ?_ | with_reducible refine r_or ?_ | with_reducible refine r_andV ?_ | with_reducible refine r_orV ?_ | with_reducible refine r_if ?_
  | with_reducible refine r_T ?_ | with_reducible refine r_F ?_ | with_reducible refine r_NT ?_ | with_reducible refine r_NF ?_ | with_reducible refine r_call ?_ | with_reducible refine r_meth ?_ | with_reducible refine r_int1 ?_ | with_reducible refine r_fld ?_
  | with_reducible refine r_tup ?_ | with_reducible refine r_lst ?_ | with_reducible refine r_par ?_ | with_reducible refine r_par3 ?_ | with_reducible refine r_two ?_ | with_reducible refine r_three ?_ | with_reducible refine r_abs ?_ | with_reducible refine r_max ?_
  | with_reducible refine r_cut ?_ | with_reducible refine r_callS ?_ | with_reducible refine r_zipA ?_ | with_reducible refine r_isN ?_ | with_reducible refine r_lc ?_ | with_reducible refine r_lc2 ?_ | with_reducible refine r_mkB ?_ | with_reducible refine r_for ?_ | with_reducible refine r_iList ?_ | with_reducible refine r_iTup ?_ | with_reducible refine r_revL ?_ | with_reducible refine r_star ?_ | with_reducible refine r_bits ?_ | with_reducible refine r_iRng ?_ | with_reducible refine r_iEnum ?_ | with_reducible refine r_iZip ?_ | with_reducible refine r_sub ?_ | with_reducible refine r_sfld ?_ | with_reducible refine r_bm ?_
  | with_reducible refine r_methK ?_ | with_reducible refine r_methS ?_ | with_reducible refine r_make ?_ | with_reducible refine r_mod ?_ | with_reducible refine r_gtup ?_ | with_reducible refine r_gcons ?_ | with_reducible refine r_gnil ?_ | with_reducible refine r_slc ?_ | with_reducible refine r_part ?_ | with_reducible refine r_noPart ?_)
local macro_rules | `(tactic| walk_at "nw") => `(tactic| (intro p hp; generalize hu : upd _ p _ = H1; obtain ⟨s1, hp1⟩ := nwx hp hu; clear hu))
local macro_rules | `(tactic| walk_at "q") => `(tactic| repeat walk_at "q1")
section
variable {P : Program} {w : World} {K : Fr} {mg : Str → Option Value} {base : Heap}
/-! ### the law's own switch -/
def OlAt (cs : List Cov) (a : Addr) (H : Hp) : Prop := ∃ as : List Addr, H a = some (refL as) ∧ as.length = cs.length ∧ ∀ (i : Nat) x c, as[i]? = some x → cs[i]? = some c → OcAt c x H
def OsAt (css : List (List Cov)) (f : Addr) (H : Hp) : Prop := ∃ ls : List Addr, H f = some (refL ls) ∧ ls.length = css.length ∧ (∀ (j : Nat) x cs, ls[j]? = some x → css[j]? = some cs → OlAt cs x H) ∧ ∀ x ∈ ls, x ≠ f
theorem OlAt.same {cs : List Cov} {a : Addr} {H H' : Hp} (h : OlAt cs a H) (s : Same H H') : OlAt cs a H' := let ⟨as, e, f, g⟩ := h; ⟨as, s _ _ e, f, fun i x c h1 h2 => (g i x c h1 h2).same s⟩
theorem OsAt.same {css : List (List Cov)} {a : Addr} {H H' : Hp} (h : OsAt css a H) (s : Same H H') : OsAt css a H' := let ⟨ls, e, f, g, k⟩ := h; ⟨ls, s _ _ e, f, fun i x c h1 h2 => (g i x c h1 h2).same s, k⟩
theorem OlAt.kp {cs : List Cov} {a d : Addr} {p : Pen} {l : Pl} {H H' : Hp} (h : OlAt cs a H) (hd : DrAt p d l H) (k : KpA d H H') : OlAt cs a H' := let ⟨as, e, f, g⟩ := h; ⟨as, k _ _ (hd.ne_ref e) e, f, fun i x c h1 h2 => (g i x c h1 h2).kp hd k⟩
theorem OsAt.kp {css : List (List Cov)} {a d : Addr} {p : Pen} {l : Pl} {H H' : Hp} (h : OsAt css a H) (hd : DrAt p d l H) (k : KpA d H H') : OsAt css a H' := let ⟨ls, e, f, g, q⟩ := h; ⟨ls, k _ _ (hd.ne_ref e) e, f, fun i x c h1 h2 => (g i x c h1 h2).kp hd k, q⟩
theorem OlAt.app {cs : List Cov} {c : Cov} {r x : Addr} {as : List Addr} {H : Hp} (e : H r = some (refL as)) (f : as.length = cs.length) (g : ∀ (i : Nat) x c, as[i]? = some x → cs[i]? = some c → OcAt c x H) (hx : OcAt c x H) (hm : ∀ b ∈ cs ++ [c], b.m ≠ []) :
    OlAt (cs ++ [c]) r (upd H r (.lst (as.map V.ref ++ [.ref x]))) := by
  refine ⟨as ++ [x], ?_, by simp [f], fun i a b h1 h2 => ?_⟩
  · rw [upd_same]; simp [refL]
  · have hb := hm b (List.mem_of_getElem? h2)
    rcases Nat.lt_or_ge i as.length with q | q
    · rw [List.getElem?_append_left q] at h1
      rw [List.getElem?_append_left (by omega)] at h2
      exact (g i a b h1 h2).app e hb
    · rw [List.getElem?_append_right q] at h1
      rw [List.getElem?_append_right (by omega)] at h2
      have i0 : i = as.length := by
        have := (List.getElem?_eq_some_iff.mp h1).1
        simp at this
        omega
      subst i0
      rw [Nat.sub_self] at h1
      rw [f, Nat.sub_self] at h2
      cases h1
      cases h2
      exact hx.app e hb
theorem OlAt.at_f {cs : List Cov} {a r : Addr} {ls : List Addr} {o : HO} {H : Hp} (h : OlAt cs a H) (ne : a ≠ r) (hr : H r = some (refL ls)) (hm : ∀ c ∈ cs, c.m ≠ []) : OlAt cs a (upd H r o) := by
  obtain ⟨as, e, f, g⟩ := h
  exact ⟨as, by rw [upd_ne ne]; exact e, f, fun i x c h1 h2 => (g i x c h1 h2).app hr (hm c (List.mem_of_getElem? h2))⟩
theorem OsAt.app {css : List (List Cov)} {cs : List Cov} {f x : Addr} {H : Hp} (h : OsAt css f H) (hx : OlAt cs x H) (ne : x ≠ f) (hm : ∀ ds ∈ css ++ [cs], ∀ c ∈ ds, c.m ≠ []) : ∃ ls : List Addr, H f = some (refL ls) ∧ OsAt (css ++ [cs]) f (upd H f (.lst (ls.map V.ref ++ [.ref x]))) := by
  obtain ⟨ls, e, fl, g, k⟩ := h
  refine ⟨ls, e, ls ++ [x], ?_, by simp [fl], fun i a b h1 h2 => ?_, fun y hy => ?_⟩
  · rw [upd_same]; simp [refL]
  · have hb := hm b (List.mem_of_getElem? h2)
    rcases Nat.lt_or_ge i ls.length with q | q
    · rw [List.getElem?_append_left q] at h1
      rw [List.getElem?_append_left (by omega)] at h2
      exact (g i a b h1 h2).at_f (k a (List.mem_of_getElem? h1)) e hb
    · rw [List.getElem?_append_right q] at h1
      rw [List.getElem?_append_right (by omega)] at h2
      have i0 : i = ls.length := by
        have := (List.getElem?_eq_some_iff.mp h1).1
        simp at this
        omega
      subst i0
      rw [Nat.sub_self] at h1
      rw [fl, Nat.sub_self] at h2
      cases h1
      cases h2
      exact hx.at_f ne e hb
  · rcases List.mem_append.mp hy with q | q
    · exact k y q
    · rw [List.mem_singleton.mp q]; exact ne
theorem PlOk.kp {p : Pen} {d : Addr} {l : Pl} {H H' : Hp} (h : PlOk l H) (k : KpA d H H') (hd : DrAt p d l H') : PlOk l H' := by
  obtain ⟨a, b, x, y, u, v, q⟩ := hd.at_
  have : ∀ z, H z ≠ none → H' z ≠ none := fun z hz e => by
    by_cases c : z = d
    · rw [c, q] at e; cases e
    · cases g : H z with
      | none => exact hz g
      | some o => rw [k _ _ c g] at e; cases e
  exact ⟨this _ h.na, this _ h.ea⟩
theorem PlOk.upd {l : Pl} {H : Hp} {a : Addr} {o : HO} (h : PlOk l H) : PlOk l (upd H a o) := by
  have : ∀ z, H z ≠ none → L2.upd H a o z ≠ none := fun z hz e => by
    by_cases c : z = a
    · rw [c, upd_same] at e; cases e
    · rw [upd_ne c] at e; exact hz e
  exact ⟨this _ h.na, this _ h.ea⟩
theorem PlOk.same {l : Pl} {H H' : Hp} (h : PlOk l H) (s : Same H H') : PlOk l H' := by
  have : ∀ z, H z ≠ none → H' z ≠ none := fun z hz e => hz (Same.back s e)
  exact ⟨this _ h.na, this _ h.ea⟩
def spOwnSw : Sp := fun vs H Q _ => ∃ (t sa ra d : Addr) (z : Sz) (bs ts : List Int) (p : Pen) (l : Pl), vs = [.ref t, .ref sa, .ref ra, .ref d] ∧ z.Ok ∧ TzAt z t H ∧ H sa = some (intL bs) ∧ (∀ x ∈ bs, 0 ≤ x ∧ x ≤ 1) ∧ H ra = some (intL ts) ∧ ts.length ≤ 32 ∧ DrAt p d l H ∧ PlOk l H ∧ p.Ok ∧
  ∀ r H', KpA d H H' → OsAt (swOf z bs ts p ts.length).1 r H' → Q (.ref r) H'
theorem lineOf_ne {z : Sz} (o : z.Ok) {bs : List Int} {t : Int} {p : Pen} (n : Nat) : ∀ c ∈ (lineOf z bs t p n).1, c.m ≠ [] := fun c hc => cov_ne (lineOf_ok n c hc) o
theorem swOf_ne {z : Sz} (o : z.Ok) {bs ts : List Int} {p : Pen} (n : Nat) : ∀ ds ∈ (swOf z bs ts p n).1, ∀ c ∈ ds, c.m ≠ [] := fun ds hd c hc => cov_ne (swOf_ok n c (List.mem_flatten.mpr ⟨ds, hd, hc⟩)) o
theorem ok_own_switch (T : Txt K mg) (c_law_own_cover : C8.Cal P w K mg base 3 "_law_own_cover" spOwnCov []) : C8.Cal P w K mg base 4 "_law_own_switch" spOwnSw [] := by
  have S : FnScope ["_law_sz", "_law_s", "_law_row_here", "_law_dr", "_law_found", "_law_t", "_law_power", "_law_line_y", "_law_i"] ["_law_sz", "_law_s", "_law_row_here", "_law_dr"] (C8.fnScope (top 72)) := C8.fnScope_by (by decide +kernel)
  refine cal_of T.f_law_own_switch T.g_law_own_switch S (fun _ _ _ _ _ _ us hl => match us, hl with | [_, _, _, _], _ => rfl) (fun vs H Q E h => ?_) (fun cdv A outer s H vs Q E hr h => ?_)
  · obtain ⟨t, sa, ra, d, z, bs, ts, p, l, rfl, _⟩ := h
    rfl
  · obtain ⟨t, sa, ra, d, z, bs, ts, p, l, rfl, o, ht, hs, bb, hra, tl, hd, hpl, pok, h⟩ := h
    have ht' : H t = some (.tup [.int z.n, .int z.m, .int z.B, .int z.l, .int z.e, .int z.q]) := ht
    refine ⟨_, (pss_cons (ps_set (i := 4) S.nd rfl (Or.inl rfl) (pe_lst pa_nil))
      (pss_cons (ps_for PassesOwn.never rfl (pi_listK (K := K) rfl (pv 2)) (pg_name (i := 5) S.nd rfl (Or.inl rfl)) (pss_cons (ps_par (i := 6) (j := 7) rfl S.nd rfl rfl (by decide) rfl rfl (pa_cons (pv 5) (pa_cons (pe_lst pa_nil) pa_nil)) (by rfl))
      (pss_cons (ps_for PassesOwn.never rfl (pi_range1 rfl T.z_range (pa_cons (pe_ix (ix_tupK (K := K) rfl) (pv 0) pe_int (fun _ _ => rfl)) pa_nil)) (pg_name (i := 8) S.nd rfl (Or.inl rfl)) (pss_cons (ps_expr (pe_bm PySem.F.plainAttrs_list PySem.F.slot_list_append PySem.F.type_list_append mt_append (pv 7) (pa_cons (C8.pe_c c_law_own_cover hr (by decide) rfl (pa_cons (pv 0) (pa_cons (pv 1) (pa_cons (pv 6) (pa_cons (pv 3) pa_nil))))) pa_nil)))
      (pss_one (ps_set (i := 6) S.nd rfl (Or.inl rfl) (pe_op op_mul (pv 6) (pe_ix (ix_tupK (K := K) rfl) (pv 0) pe_int (fun _ _ => rfl)))))))
      (pss_one (ps_expr (pe_bm PySem.F.plainAttrs_list PySem.F.slot_list_append PySem.F.type_list_append mt_append (pv 4) (pa_cons (pv 7) pa_nil)))))))
      (pss_one (ps_ret (pv 4))))), ?_⟩
    have l8 := o.l8
    have bp := z.Bpos
    have ble := Sz.Ble o
    have nt := hd.ne_tup ht
    have ns := hd.ne_int hs
    have nr := hd.ne_int hra
    walk_at "q"
    refine ⟨by decide, ?_⟩
    walk_at "nw"
    rename_i f nf H1 s1 hf
    have offF := hd.off nf hpl.na hpl.ea
    walk_at "q"
    refine ⟨ra, rfl, ⟨_, SqL.of (s1 _ _ hra)⟩, ?_⟩
    refine for_it walk_list (fun j σ H' => ∃ v5 v6 v7 v8, σ = [some (.ref t), some (.ref sa), some (.ref ra), some (.ref d), some (.ref f), v5, v6, v7, v8] ∧ KpA d H H' ∧ DrAt (swOf z bs ts p j).2 d l H' ∧ PlOk l H' ∧ OsAt (swOf z bs ts p j).1 f H') ⟨_, _, _, _, rfl, KpA.of s1, hd.same s1, hpl.same s1, ⟨[], hf, rfl, (fun i a c h1 _ => by cases h1), (fun x hx => by cases hx)⟩⟩ (fun j σ H' _ ⟨_, _, _, _, _, k, _⟩ => SqL.of (k _ _ nr hra)) ?_ ?_
    · rintro j v σ H2 H3 hj ⟨v5, v6, v7, v8, rfl, k2, d2, pl2, f2⟩ ⟨rfl, hv⟩
      obtain ⟨x, hx, rfl⟩ := lst_at hv
      have hj' : j < ts.length := by simpa using hj
      have et : ts.getD j 0 = x := by rw [List.getD_eq_getElem?_getD, hx]; rfl
      walk_at "q"
      refine ⟨by decide, ?_⟩
      walk_at "nw"
      rename_i ly nly H4 s4 hly
      have offL := d2.off nly pl2.na pl2.ea
      have nlf : ly ≠ f := fun e => by
        obtain ⟨ls, ef, _⟩ := f2
        rw [e, ef] at nly
        cases nly
      have ht4 := s4 _ _ (k2 _ _ nt ht')
      walk_at "q"
      refine ⟨t, _, 3, _, rfl, rfl, SqT.of ht4, rfl, ?_⟩
      walk_at "q"
      refine ⟨_, rfl, by omega, by omega, ?_⟩
      refine for_it (walk_range (n := (z.l : Int).toNat)) (fun i σ H' => ∃ v8, σ = [some (.ref t), some (.ref sa), some (.ref ra), some (.ref d), some (.ref f), some (.int x), some (.int (x * z.B ^ i)), some (.ref ly), v8] ∧ KpA d H3 H' ∧ DrAt (lineOf z bs x (swOf z bs ts p j).2 i).2 d l H' ∧ PlOk l H' ∧ OlAt (lineOf z bs x (swOf z bs ts p j).2 i).1 ly H') ⟨_, by rw [Int.pow_zero, Int.mul_one]; rfl, KpA.of s4, d2.same s4, pl2.same s4, ⟨[], hly, rfl, fun i a c h1 _ => by cases h1⟩⟩ (fun _ _ _ _ _ => trivial) ?_ ?_
      · rintro i v σ H5 H6 hi ⟨v8, rfl, k5, d5, pl5, l5⟩ ⟨rfl, rfl⟩
        have k05 := k2.trans k5
        obtain ⟨as5, e5, f5, g5⟩ := id l5
        walk_at "q"
        refine ⟨.inl ⟨rfl, _, SqL.of e5⟩, ?_⟩
        walk_at "q"
        refine ⟨t, sa, d, z, bs, _, _, l, rfl, o, k05 _ _ nt ht, k05 _ _ ns hs, bb, d5, pl5, lineOf_pok (swOf_pok pok j) i, fun c H7 nc k7 d7 c7 => ?_⟩
        obtain ⟨as7, e7, f7, g7⟩ := l5.kp d5 k7
        walk_at "q"
        refine ⟨_, _, _, rfl, rfl, e7, Nat.lt_of_le_of_lt (m := 1000) (by rw [List.length_map, f7, lineOf_len]; omega) (by decide), ?_⟩
        have ht7 := (k05.trans k7) _ _ nt ht'
        have nlt : t ≠ ly := fun e => by rw [← e, k2 _ _ nt ht'] at nly; cases nly
        walk_at "q"
        refine ⟨t, _, 2, _, rfl, rfl, SqT.of (by rw [upd_ne nlt]; exact ht7), rfl, ?_⟩
        refine r_I (.inr ⟨by omega, by omega⟩) ?_
        walk_at "q"
        refine ⟨_, by rw [Int.pow_succ, ← Int.mul_assoc]; rfl, fun b u n e => by rw [upd_ne (ne_of_none e nly)]; exact (k5.trans k7) b u n e, d7.upd offL, ((pl5.kp k7 d7)).upd, ?_⟩
        show OlAt ((lineOf z bs x (swOf z bs ts p j).2 i).1 ++ [(coverOf z bs (lineOf z bs x (swOf z bs ts p j).2 i).2 (x * z.B ^ i)).1]) ly _
        refine OlAt.app e7 f7 g7 c7 fun b hb => ?_
        exact lineOf_ne o (i + 1) b hb
      · rw [Int.toNat_natCast]
        rintro σ H5 ⟨v8, rfl, k5, d5, pl5, l5⟩
        obtain ⟨ls, ef, of⟩ := (f2.kp d2 k5).app l5 nlf (fun ds hds => by
          rcases List.mem_append.mp hds with q | q
          · exact swOf_ne o j ds q
          · rw [List.mem_singleton.mp q]; exact lineOf_ne o z.l)
        walk_at "q"
        refine ⟨.inl ⟨rfl, _, SqL.of ef⟩, ?_⟩
        walk_at "q"
        refine ⟨_, _, _, rfl, rfl, ef, Nat.lt_of_le_of_lt (m := 1000) (by
          obtain ⟨ls', ef', fl', _⟩ := f2.kp d2 k5
          have e : refL ls = refL ls' := Option.some.inj (ef.symm.trans ef')
          have e2 : ls.map V.ref = ls'.map V.ref := by injection e
          rw [e2, List.length_map, fl', swOf_len]
          omega) (by decide), ?_⟩
        refine ⟨_, _, _, _, rfl, fun b u n e => by rw [upd_ne (ne_of_none e nf)]; exact (k2.trans k5) b u n e, ?_, pl5.upd, ?_⟩
        · show DrAt (lineOf z bs (ts.getD j 0) (swOf z bs ts p j).2 z.l).2 d l _
          rw [et]; exact d5.upd offF
        · show OsAt ((swOf z bs ts p j).1 ++ [(lineOf z bs (ts.getD j 0) (swOf z bs ts p j).2 z.l).1]) f _
          rw [et]; exact of
    · rw [List.length_map]
      rintro σ H2 ⟨v5, v6, v7, v8, rfl, k2, d2, pl2, f2⟩
      walk_at "q"
      exact h f H2 k2 f2
end
end K20

set_option Elab.async false
set_option linter.all false
set_option maxRecDepth 100000
set_option maxHeartbeats 4000000
namespace K20
open PySem PySem.Spec PyProof.Rows L2
local macro_rules | `(tactic| walk_at "q1") => `(tactic| first
  | with_reducible refine r_seq ?_ | with_reducible refine r_asg ?_ | with_reducible refine r_name ?_ | with_reducible refine r_ret ?_ | with_reducible refine r_ifS ?_ | with_reducible refine r_next ?_ | with_reducible refine r_drop ?_
  | ((with_reducible show tVar _ _ _ _); refine ⟨_, rfl, ?_⟩) | with_reducible refine r_c ?_ | with_reducible refine r_op ?_ | with_reducible refine r_un ?_ | with_reducible refine r_I0 ?_ | with_reducible refine r_U ?_
  | with_reducible refine r_eqI ?_ | with_reducible refine r_neI ?_ | with_reducible refine r_neB ?_ | with_reducible refine r_cb ?_ | with_reducible refine r_cons ?_ | with_reducible refine r_nil ?_ | with_reducible refine r_test ?_ | with_reducible refine r_tB ?_
  | with_reducible refine r_bl ?_ | with_reducible refine r_not ?_ | with_reducible refine r_notV ?_ | with_reducible refine r_and ?_ | with_reducible refine r_or ?_ | with_reducible refine r_andV ?_ | with_reducible refine r_orV ?_ | with_reducible refine r_if ?_
  | with_reducible refine r_T ?_ | with_reducible refine r_F ?_ | with_reducible refine r_NT ?_ | with_reducible refine r_NF ?_ | with_reducible refine r_call ?_ | with_reducible refine r_meth ?_ | with_reducible refine r_int1 ?_ | with_reducible refine r_fld ?_
  | with_reducible refine r_tup ?_ | with_reducible refine r_lst ?_ | with_reducible refine r_par ?_ | with_reducible refine r_par3 ?_ | with_reducible refine r_two ?_ | with_reducible refine r_three ?_ | with_reducible refine r_abs ?_ | with_reducible refine r_max ?_
  | with_reducible refine r_cut ?_ | with_reducible refine r_callS ?_ | with_reducible refine r_zipA ?_ | with_reducible refine r_isN ?_ | with_reducible refine r_lc ?_ | with_reducible refine r_lc2 ?_ | with_reducible refine r_mkB ?_ | with_reducible refine r_for ?_ | with_reducible refine r_iList ?_ | with_reducible refine r_iTup ?_ | with_reducible refine r_revL ?_ | with_reducible refine r_star ?_ | with_reducible refine r_bits ?_ | with_reducible refine r_iRng ?_ | with_reducible refine r_iEnum ?_ | with_reducible refine r_iZip ?_ | with_reducible refine r_sub ?_ | with_reducible refine r_sfld ?_ | with_reducible refine r_bm ?_
  | with_reducible refine r_methK ?_ | with_reducible refine r_methS ?_ | with_reducible refine r_make ?_ | with_reducible refine r_mod ?_ | with_reducible refine r_gtup ?_ | with_reducible refine r_gcons ?_ | with_reducible refine r_gnil ?_ | with_reducible refine r_slc ?_ | with_reducible refine r_part ?_ | with_reducible refine r_noPart ?_)
local macro_rules | `(tactic| walk_at "nw") => `(tactic| (intro p hp; generalize hu : upd _ p _ = H1; obtain ⟨s1, hp1⟩ := nwx hp hu; clear hu))
local macro_rules | `(tactic| walk_at "q") => `(tactic| repeat walk_at "q1")
section
variable {P : Program} {w : World} {K : Fr} {mg : Str → Option Value} {base : Heap}
/-! ### the law's own led -/
def accS (A : List Int × Int) (d : Int) (c : Cov) : List Int × Int := (List.zipWith (fun a x => a - d * x) A.1 c.m, A.2 - d * c.y)
def ldI (ds : List Int) (cs : List Cov) (A : List Int × Int) : Nat → List Int × Int
  | 0 => A
  | i + 1 => accS (ldI ds cs A i) (ds.getD i 0) (cs.getD i ⟨[], 0⟩)
def ldJ (z : Sz) (css : List (List Cov)) (ns : List Int) (y : Int) : Nat → List Int × Int
  | 0 => (List.replicate z.n 0, y)
  | j + 1 => ldI (digs z.B (ns.getD j 0 % z.q) z.l) (css.getD j []) (ldJ z css ns y j) z.l
/-- lines in bounds -/
structure LnOk (z : Sz) (css : List (List Cov)) (wd : Nat) : Prop where
  len : css.length = wd
  ln : ∀ cs ∈ css, cs.length = z.l
  ok : ∀ cs ∈ css, ∀ c ∈ cs, c.Ok z
theorem accS_len {A : List Int × Int} {d : Int} {c : Cov} {n : Nat} (h1 : A.1.length = n) (h2 : c.m.length = n) : (accS A d c).1.length = n := by
  show (List.zipWith _ A.1 c.m).length = n
  rw [List.length_zipWith, h1, h2, Nat.min_self]
theorem zw_zero : ∀ m w : List Int, m.length = w.length → List.zipWith (fun a x : Int => a - 0 * x) m w = m
  | [], w, _ => by simp
  | x :: xs, [], h => by cases h
  | x :: xs, b :: bs, h => by
    rw [List.zipWith_cons_cons, zw_zero xs bs (by simpa using h)]
    simp
theorem accS_zero {A : List Int × Int} {c : Cov} (h : A.1.length = c.m.length) : accS A 0 c = A := by
  obtain ⟨m, y⟩ := A
  show (List.zipWith (fun a x : Int => a - 0 * x) m c.m, y - 0 * c.y) = (m, y)
  rw [zw_zero m c.m h]; simp
theorem ldI_len {ds : List Int} {cs : List Cov} {A : List Int × Int} {n : Nat} (hA : A.1.length = n) (hc : ∀ c ∈ cs, c.m.length = n) : ∀ i, i ≤ cs.length → (ldI ds cs A i).1.length = n
  | 0, _ => hA
  | i + 1, h => by
    refine accS_len (ldI_len hA hc i (by omega)) ?_
    rw [List.getD_eq_getElem?_getD, List.getElem?_eq_getElem (by omega)]
    exact hc _ (List.getElem_mem _)
theorem ldJ_len {z : Sz} {css : List (List Cov)} {ns : List Int} {y : Int} {wd : Nat} (L : LnOk z css wd) : ∀ j, j ≤ wd → (ldJ z css ns y j).1.length = z.n
  | 0, _ => List.length_replicate ..
  | j + 1, h => by
    have hj : j < css.length := by rw [L.len]; omega
    have e : css.getD j [] = css[j] := by rw [List.getD_eq_getElem?_getD, List.getElem?_eq_getElem hj]; rfl
    show (ldI _ (css.getD j []) _ z.l).1.length = z.n
    rw [e]
    exact ldI_len (ldJ_len L j (by omega)) (fun c hc => (L.ok _ (List.getElem_mem hj) c hc).len) z.l (by rw [L.ln _ (List.getElem_mem hj)]; omega)
def spOwnLed : Sp := fun vs H Q _ => ∃ (sw ra t : Addr) (z : Sz) (css : List (List Cov)) (ns : List Int) (y : Int), vs = [.ref sw, .ref ra, .int y, .ref t] ∧ z.Ok ∧ TzAt z t H ∧ OsAt css sw H ∧ LnOk z css ns.length ∧ H ra = some (intL ns) ∧ ns.length ≤ 32 ∧
  ∀ r H', H r = none → Same H H' → OcAt ⟨(ldJ z css ns y ns.length).1.map (· % z.q), (ldJ z css ns y ns.length).2 % z.q⟩ r H' → Q (.ref r) H'
theorem ok_own_led (T : Txt K mg) (c_law_split : C8.Cal P w K mg base 1 "_law_split" spSplit []) : C8.Cal P w K mg base 2 "_law_own_led" spOwnLed [] := by
  have S : FnScope ["_law_sw", "_law_row_here", "_law_body_y", "_law_sz", "_law_mask", "_law_rest", "_law_j", "_law_parts", "_law_i", "_law_a", "_law_c"] ["_law_sw", "_law_row_here", "_law_body_y", "_law_sz"] (C8.fnScope (top 75)) := C8.fnScope_by (by decide +kernel)
  refine cal_of T.f_law_own_led T.g_law_own_led S (fun _ _ _ _ _ _ us hl => match us, hl with | [_, _, _, _], _ => rfl) (fun vs H Q E h => ?_) (fun cdv A outer s H vs Q E hr h => ?_)
  · obtain ⟨sw, ra, t, z, css, ns, y, rfl, _⟩ := h
    rfl
  · obtain ⟨sw, ra, t, z, css, ns, y, rfl, o, ht, hsw, L, hra, nl, h⟩ := h
    have ht' : H t = some (.tup [.int z.n, .int z.m, .int z.B, .int z.l, .int z.e, .int z.q]) := ht
    refine ⟨_, (pss_cons (ps_par (i := 4) (j := 5) rfl S.nd rfl rfl (by decide) rfl rfl (pa_cons (pe_op op_rep (pe_lst (pa_cons pe_int pa_nil)) (pe_ix (ix_tupK (K := K) rfl) (pv 3) pe_int (fun _ _ => rfl))) (pa_cons (pv 2) pa_nil)) (by rfl))
      (pss_cons (ps_for PassesOwn.never rfl (pi_range1 rfl T.z_range (pa_cons (pe_callB call_len_seq rfl T.z_len (by decide +kernel) (pa_cons (pv 1) pa_nil)) pa_nil)) (pg_name (i := 6) S.nd rfl (Or.inl rfl)) (pss_cons (ps_set (i := 7) S.nd rfl (Or.inr rfl) (C8.pe_c c_law_split hr (by decide) rfl (pa_cons (pe_ix (ix_listK (K := K) rfl) (pv 1) (pv 6) (fun _ _ => rfl)) (pa_cons (pv 3) pa_nil))))
      (pss_one (ps_for PassesOwn.never rfl (pi_range1 rfl T.z_range (pa_cons (pe_ix (ix_tupK (K := K) rfl) (pv 3) pe_int (fun _ _ => rfl)) pa_nil)) (pg_name (i := 8) S.nd rfl (Or.inr rfl)) (pss_one (ps_if (pt_cmpR op_ne (pe_ix (ix_listK (K := K) rfl) (pv 7) (pv 8) (fun _ _ => rfl)) pe_int (nomark _)) (pss_cons (ps_setLc (i := 4) (own := [("_law_a", 9), ("_law_c", 10)]) rfl S.nd rfl rfl (sw_true rfl rfl rfl (by decide +kernel)) (pi_zip rfl T.z_zip (pa_cons (pv 4) (pa_cons (pe_ix (ix_tupK (K := K) rfl) (pe_ix (ix_listK (K := K) rfl) (pe_ix (ix_listK (K := K) rfl) (pv 0) (pv 6) (fun _ _ => rfl)) (pv 8) (fun _ _ => rfl)) pe_int (fun _ _ => rfl)) pa_nil))) (blkOk_by (N := ["_law_sw", "_law_row_here", "_law_body_y", "_law_sz", "_law_mask", "_law_rest", "_law_j", "_law_parts", "_law_i", "_law_a", "_law_c"]) (sc := C8.fnScope (top 75)) (by decide +kernel)) (fun _ _ _ _ _ => (pg_tupK (K := K) (n := 2) rfl rfl (pgs_cons (pg_name (i := 9) S.nd rfl (Or.inl rfl)) (pgs_cons (pg_name (i := 10) S.nd rfl (Or.inl rfl)) pgs_nil)))) (fun _ _ _ _ _ => pts_nil) (fun _ _ _ _ _ => (pe_op op_sub (pv 9) (pe_op op_mul (pe_ix (ix_listK (K := K) rfl) (pv 7) (pv 8) (fun _ _ => rfl)) (pv 10)))))
      (pss_one (ps_set (i := 5) S.nd rfl (Or.inl rfl) (pe_op op_sub (pv 5) (pe_op op_mul (pe_ix (ix_listK (K := K) rfl) (pv 7) (pv 8) (fun _ _ => rfl)) (pe_ix (ix_tupK (K := K) rfl) (pe_ix (ix_listK (K := K) rfl) (pe_ix (ix_listK (K := K) rfl) (pv 0) (pv 6) (fun _ _ => rfl)) (pv 8) (fun _ _ => rfl)) pe_int (fun _ _ => rfl))))))) pss_nil))))))
      (pss_one (ps_ret (pe_tup (pa_cons (pe_lc (own := [("_law_a", 9)]) rfl S.nd (pi_listK (K := K) rfl (pv 4)) (blkOk_by (N := ["_law_sw", "_law_row_here", "_law_body_y", "_law_sz", "_law_mask", "_law_rest", "_law_j", "_law_parts", "_law_i", "_law_a", "_law_c"]) (sc := C8.fnScope (top 75)) (by decide +kernel)) (fun _ _ _ _ _ => (pg_name (i := 9) S.nd rfl (Or.inl rfl))) (fun _ _ _ _ _ => pts_nil) (fun _ _ _ _ _ => (pe_op op_mod (pe_callTy call_int1 rfl T.z_int (by decide +kernel) (pa_cons (pv 9) pa_nil)) (pe_ix (ix_tupK (K := K) rfl) (pv 3) pe_int (fun _ _ => rfl))))) (pa_cons (pe_op op_mod (pe_callTy call_int1 rfl T.z_int (by decide +kernel) (pa_cons (pv 5) pa_nil)) (pe_ix (ix_tupK (K := K) rfl) (pv 3) pe_int (fun _ _ => rfl))) pa_nil))))))), ?_⟩
    have n8 := o.n8
    have l8 := o.l8
    have hle := Sz.hle o
    walk_at "q"
    refine ⟨(show (1 : Nat) ≤ sizeLine by decide), ?_⟩
    walk_at "nw"
    rename_i p0 np0 H0 s0 hp0
    walk_at "q"
    refine ⟨t, _, 0, _, rfl, rfl, SqT.of (s0 _ _ ht'), rfl, ?_⟩
    refine ⟨p0, _, _, rfl, rfl, hp0, by omega, by omega, Nat.le_trans (m := 1000) (by simp; omega) (by decide), ?_⟩
    intro mk0 nmk0
    rw [Int.toNat_natCast, rep_ints]
    generalize hu : upd H0 mk0 _ = H1
    obtain ⟨s1, hmk0⟩ := nwx nmk0 hu
    clear hu
    have s01 : Same H H1 := Same.trans s0 s1
    walk_at "q"
    refine ⟨ra, _, rfl, .inl (SqL.of (s01 _ _ hra)), ?_⟩
    walk_at "q"
    refine ⟨_, rfl, by omega, by rw [List.length_map]; omega, ?_⟩
    refine for_it (walk_range (n := (((ns.map V.int).length : Nat) : Int).toNat)) (fun j σ H' => ∃ mk v6 v7 v8, σ = [some (.ref sw), some (.ref ra), some (.int y), some (.ref t), some (.ref mk), some (.int (ldJ z css ns y j).2), v6, v7, v8, none, none] ∧ Same H H' ∧ H' mk = some (intL (ldJ z css ns y j).1)) ⟨_, _, _, _, rfl, s01, hmk0⟩ (fun _ _ _ _ _ => trivial) ?_ ?_
    · rintro j v σ H2 H3 hj ⟨mk, v6, v7, v8, rfl, s2, hmk⟩ ⟨rfl, rfl⟩
      have hj' : j < ns.length := by simpa using hj
      have hjc : j < css.length := by rw [L.len]; omega
      have ens : ns.getD j 0 = ns[j] := by rw [List.getD_eq_getElem?_getD, List.getElem?_eq_getElem hj']; rfl
      have ecs : css.getD j [] = css[j] := by rw [List.getD_eq_getElem?_getD, List.getElem?_eq_getElem hjc]; rfl
      have lcs := L.ln _ (List.getElem_mem hjc)
      have okc := L.ok _ (List.getElem_mem hjc)
      walk_at "q"
      refine ⟨ra, _, _, _, rfl, rfl, SqL.of (s2 _ _ hra), by rw [Int.zero_add]; exact atI_nat (by rw [List.getElem?_map, List.getElem?_eq_getElem hj']; rfl), ?_⟩
      walk_at "q"
      refine ⟨t, z, ns[j], rfl, o, s2 _ _ ht, fun pr H4 npr s4 hpr => ?_⟩
      rw [digs_spl (Sz.B2 o) z.hpos (q := z.q) rfl] at hpr
      generalize hds : digs z.B (ns[j] % z.q) z.l = ds at hpr
      have dlen : ds.length = z.l := by rw [← hds, digs_length]
      have dbd : ∀ x ∈ ds, -z.h ≤ x ∧ x < z.h := by rw [← hds]; exact digs_bound (Sz.B2 o) z.hpos z.l
      have s24 := s2.trans s4
      walk_at "q"
      refine ⟨t, _, 3, _, rfl, rfl, SqT.of (s24 _ _ ht'), rfl, ?_⟩
      walk_at "q"
      refine ⟨_, rfl, by omega, by omega, ?_⟩
      obtain ⟨ls, els, fls, gls, _⟩ := hsw
      have hjl : j < ls.length := by rw [fls]; exact hjc
      obtain ⟨as, eas, fas, gas⟩ := gls j ls[j] css[j] (List.getElem?_eq_getElem hjl) (List.getElem?_eq_getElem hjc)
      refine for_it (walk_range (n := (z.l : Int).toNat)) (fun i σ H' => ∃ mk v8, σ = [some (.ref sw), some (.ref ra), some (.int y), some (.ref t), some (.ref mk), some (.int (ldI ds css[j] (ldJ z css ns y j) i).2), some (.int (0 + (j : Nat))), some (.ref pr), v8, none, none] ∧ Same H H' ∧ H' pr = some (intL ds) ∧ H' mk = some (intL (ldI ds css[j] (ldJ z css ns y j) i).1)) ⟨_, _, rfl, s24, hpr, s4 _ _ hmk⟩ (fun _ _ _ _ _ => trivial) ?_ ?_
      · rintro i v σ H5 H6 hi ⟨mk5, v8, rfl, s5, hpr5, hmk5⟩ ⟨rfl, rfl⟩
        have hi' : i < z.l := by simpa using hi
        have hid : i < ds.length := by omega
        have hic : i < css[j].length := by omega
        have hia : i < as.length := by omega
        have eds : ds.getD i 0 = ds[i] := by rw [List.getD_eq_getElem?_getD, List.getElem?_eq_getElem hid]; rfl
        have ec : css[j].getD i ⟨[], 0⟩ = css[j][i] := by rw [List.getD_eq_getElem?_getD, List.getElem?_eq_getElem hic]; rfl
        obtain ⟨ml, eml, fml⟩ := gas i as[i] css[j][i] (List.getElem?_eq_getElem hia) (List.getElem?_eq_getElem hic)
        obtain ⟨db1, db2⟩ := dbd _ (List.getElem_mem hid)
        have clen := (okc _ (List.getElem_mem hic)).len
        have Alen : (ldI ds css[j] (ldJ z css ns y j) i).1.length = z.n := ldI_len (ldJ_len L j (by omega)) (fun c hc => (okc c hc).len) i (by omega)
        have stp : ldI ds css[j] (ldJ z css ns y j) (i + 1) = accS (ldI ds css[j] (ldJ z css ns y j) i) ds[i] css[j][i] := by
          show accS _ (ds.getD i 0) (css[j].getD i ⟨[], 0⟩) = _
          rw [eds, ec]
        generalize hA : ldI ds css[j] (ldJ z css ns y j) i = A at hmk5 Alen stp ⊢
        have atp : atI (ds.map V.int) (0 + (i : Nat) : Int) = some (.int ds[i]) := by rw [Int.zero_add]; exact atI_nat (by rw [List.getElem?_map, List.getElem?_eq_getElem hid]; rfl)
        have atj : atI (ls.map V.ref) (0 + (j : Nat) : Int) = some (.ref ls[j]) := by rw [Int.zero_add]; exact atI_nat (by rw [List.getElem?_map, List.getElem?_eq_getElem hjl]; rfl)
        have ati : atI (as.map V.ref) (0 + (i : Nat) : Int) = some (.ref as[i]) := by rw [Int.zero_add]; exact atI_nat (by rw [List.getElem?_map, List.getElem?_eq_getElem hia]; rfl)
        walk_at "q"
        refine ⟨pr, _, _, _, rfl, rfl, SqL.of hpr5, atp, ?_⟩
        walk_at "q"
        refine r_iteN (fun nz => ?_) fun ez => ?_
        · walk_at "q"
          refine ⟨sw, _, _, _, rfl, rfl, SqL.of (s5 _ _ els), atj, ?_⟩
          walk_at "q"
          refine ⟨ls[j], _, _, _, rfl, rfl, SqL.of (s5 _ _ eas), ati, ?_⟩
          walk_at "q"
          refine ⟨as[i], _, 0, _, rfl, rfl, SqT.of (s5 _ _ eml), rfl, ?_⟩
          walk_at "q"
          refine ⟨mk5, ml, _, _, rfl, SqL.of hmk5, SqL.of (s5 _ _ fml), ?_⟩
          intro D nD
          have nprD : pr ≠ D := fun e => by rw [← e, hpr5] at nD; cases nD
          refine lc_inv (walk_zip rfl) nD (fun k acc H' => acc = ((List.zipWith (fun a x => a - ds[i] * x) A.1 css[j][i].m).take k).map V.int ∧ Same H6 H') ⟨rfl, Same.refl _⟩ (fun k acc H' o ⟨e, s⟩ => ⟨e, fun b u e => by rw [upd_ne (ne_of_none e nD)]; exact s b u e⟩) (fun k acc H' ⟨_, s⟩ => ⟨SqL.of (s _ _ hmk5), SqL.of (s _ _ (s5 _ _ fml))⟩) (by simp; omega) ?_ ?_
          · rintro k acc v H7 H8 hk hla ⟨e, s7⟩ hD7 ⟨Tp, y1, z1, rfl, hT, rfl, hy, hz⟩ Kc kc
            obtain ⟨a, ha1, rfl⟩ := lst_at hy
            obtain ⟨b, hb1, rfl⟩ := lst_at hz
            refine ⟨_, _, rfl, SqT.of upd_same, rfl, ?_⟩
            walk_at "q"
            refine ⟨rfl, ?_⟩
            walk_at "q"
            refine ⟨pr, _, _, _, rfl, rfl, SqL.of (by rw [upd_ne (ne_of_none (s7 _ _ hpr5) hT)]; exact s7 _ _ hpr5), atp, ?_⟩
            walk_at "q"
            refine r_I (.inl ⟨by omega, by omega⟩) ?_
            walk_at "q"
            refine kc _ _ (by rw [upd_ne (ne_of_none hD7 hT)]; exact hD7) ⟨?_, s7.trans (same_upd hT)⟩
            rw [e, List.take_add_one, zw_at ha1 hb1, List.map_append]
            rfl
          · rintro acc H7 hla ⟨e7, s7⟩ hD7
            have e7 : acc = (List.zipWith (fun a x => a - ds[i] * x) A.1 css[j][i].m).map V.int := by rw [e7, List.take_of_length_le (by simp)]
            rw [e7] at hD7
            have s57 := s5.trans s7
            walk_at "q"
            refine ⟨pr, _, _, _, rfl, rfl, SqL.of (s7 _ _ hpr5), atp, ?_⟩
            walk_at "q"
            refine ⟨sw, _, _, _, rfl, rfl, SqL.of (s57 _ _ els), atj, ?_⟩
            walk_at "q"
            refine ⟨ls[j], _, _, _, rfl, rfl, SqL.of (s57 _ _ eas), ati, ?_⟩
            walk_at "q"
            refine ⟨as[i], _, 1, _, rfl, rfl, SqT.of (s57 _ _ eml), rfl, ?_⟩
            walk_at "q"
            refine r_I (.inl ⟨by omega, by omega⟩) ?_
            walk_at "q"
            refine ⟨D, some (.int (0 + (i : Nat))), ?_, s57, s7 _ _ hpr5, ?_⟩
            · rw [stp]; rfl
            · rw [stp]; exact hD7
        · walk_at "q"
          refine ⟨mk5, some (.int (0 + (i : Nat))), ?_, s5, hpr5, ?_⟩
          · rw [stp, ez, accS_zero (by rw [Alen, clen])]; rfl
          · rw [stp, ez, accS_zero (by rw [Alen, clen])]; exact hmk5
      · rw [Int.toNat_natCast]
        rintro σ H5 ⟨mk5, v8, rfl, s5, hpr5, hmk5⟩
        refine ⟨mk5, some (.int (0 + (j : Nat))), some (.ref pr), v8, ?_, s5, ?_⟩
        · show _ = [_, _, _, _, _, some (V.int (ldI (digs z.B (ns.getD j 0 % z.q) z.l) (css.getD j []) (ldJ z css ns y j) z.l).2), _, _, _, _, _]
          rw [ens, ecs, hds]
        · show H5 mk5 = some (intL (ldI (digs z.B (ns.getD j 0 % z.q) z.l) (css.getD j []) (ldJ z css ns y j) z.l).1)
          rw [ens, ecs, hds]; exact hmk5
    · rw [Int.toNat_natCast, List.length_map]
      rintro σ H2 ⟨mk, v6, v7, v8, rfl, s2, hmk⟩
      have Alen : (ldJ z css ns y ns.length).1.length = z.n := ldJ_len L _ (by omega)
      walk_at "q"
      refine ⟨mk, rfl, ⟨_, SqL.of hmk⟩, ?_⟩
      intro D nD
      refine lc_inv walk_list nD (fun k acc H' => acc = (((ldJ z css ns y ns.length).1.map (· % z.q)).take k).map V.int ∧ Same H2 H') ⟨rfl, Same.refl _⟩ (fun k acc H' o ⟨e, s⟩ => ⟨e, fun b u e => by rw [upd_ne (ne_of_none e nD)]; exact s b u e⟩) (fun k acc H' ⟨_, s⟩ => SqL.of (s _ _ hmk)) (by simp; omega) ?_ ?_
      · rintro k acc v H7 H8 hk hla ⟨e, s7⟩ hD7 ⟨rfl, hv⟩ Kc kc
        obtain ⟨a, ha1, rfl⟩ := lst_at hv
        have ht8 := s7 _ _ (s2 _ _ ht')
        walk_at "q"
        refine ⟨rfl, ?_⟩
        walk_at "q"
        refine .inl ⟨_, rfl, ?_⟩
        walk_at "q"
        refine ⟨t, _, 5, _, rfl, rfl, SqT.of ht8, rfl, ?_⟩
        refine r_I z.qpos ?_
        refine kc _ _ hD7 ⟨?_, s7⟩
        rw [e, List.take_add_one, List.getElem?_map, ha1, List.map_append]
        rfl
      · rintro acc H7 hla ⟨e7, s7⟩ hD7
        have e7 : acc = ((ldJ z css ns y ns.length).1.map (· % z.q)).map V.int := by rw [e7, List.take_of_length_le (by simp)]
        rw [e7] at hD7
        have s27 := s2.trans s7
        walk_at "q"
        refine .inl ⟨_, rfl, ?_⟩
        walk_at "q"
        refine ⟨t, _, 5, _, rfl, rfl, SqT.of (s27 _ _ ht'), rfl, ?_⟩
        refine r_I z.qpos ?_
        walk_at "q"
        refine ⟨(show (2 : Nat) ≤ sizeLine by decide), fun r nr => ?_⟩
        have s8 : Same H7 (upd H7 r (.tup [.ref D, .int ((ldJ z css ns y ns.length).2 % z.q)])) := same_upd nr
        exact h r _ (Same.back s27 nr) (s27.trans s8) ⟨D, upd_same, s8 _ _ hD7⟩
end
end K20

set_option Elab.async false
set_option linter.all false
set_option maxRecDepth 100000
set_option maxHeartbeats 4000000
namespace K20
open PySem PySem.Spec PyProof.Rows L2
local macro_rules | `(tactic| walk_at "q1") => `(tactic| first
  | with_reducible refine r_seq ?_ | with_reducible refine r_asg ?_ | with_reducible refine r_name ?_ | with_reducible refine r_ret ?_ | with_reducible refine r_ifS ?_ | with_reducible refine r_next ?_ | with_reducible refine r_drop ?_
  | ((with_reducible show tVar _ _ _ _); refine ⟨_, rfl, ?_⟩) | with_reducible refine r_c ?_ | with_reducible refine r_op ?_ | with_reducible refine r_un ?_ | with_reducible refine r_I0 ?_ | with_reducible refine r_U ?_
  | with_reducible refine r_eqI ?_ | with_reducible refine r_neI ?_ | with_reducible refine r_neB ?_ | with_reducible refine r_cb ?_ | with_reducible refine r_cons ?_ | with_reducible refine r_nil ?_ | with_reducible refine r_test ?_ | with_reducible refine r_tB ?_
  | with_reducible refine r_bl ?_ | with_reducible refine r_not ?_ | with_reducible refine r_notV ?_ | with_reducible refine r_and ?_ | with_reducible refine r_or ?_ | with_reducible refine r_andV ?_ | with_reducible refine r_orV ?_ | with_reducible refine r_if ?_
  | with_reducible refine r_T ?_ | with_reducible refine r_F ?_ | with_reducible refine r_NT ?_ | with_reducible refine r_NF ?_ | with_reducible refine r_call ?_ | with_reducible refine r_meth ?_ | with_reducible refine r_int1 ?_ | with_reducible refine r_fld ?_
  | with_reducible refine r_tup ?_ | with_reducible refine r_lst ?_ | with_reducible refine r_par ?_ | with_reducible refine r_par3 ?_ | with_reducible refine r_two ?_ | with_reducible refine r_three ?_ | with_reducible refine r_abs ?_ | with_reducible refine r_max ?_
  | with_reducible refine r_cut ?_ | with_reducible refine r_callS ?_ | with_reducible refine r_zipA ?_ | with_reducible refine r_isN ?_ | with_reducible refine r_lc ?_ | with_reducible refine r_lc2 ?_ | with_reducible refine r_mkB ?_ | with_reducible refine r_for ?_ | with_reducible refine r_iList ?_ | with_reducible refine r_iTup ?_ | with_reducible refine r_revL ?_ | with_reducible refine r_star ?_ | with_reducible refine r_bits ?_ | with_reducible refine r_iRng ?_ | with_reducible refine r_iEnum ?_ | with_reducible refine r_iZip ?_ | with_reducible refine r_sub ?_ | with_reducible refine r_sfld ?_ | with_reducible refine r_bm ?_
  | with_reducible refine r_methK ?_ | with_reducible refine r_methS ?_ | with_reducible refine r_make ?_ | with_reducible refine r_mod ?_ | with_reducible refine r_gtup ?_ | with_reducible refine r_gcons ?_ | with_reducible refine r_gnil ?_ | with_reducible refine r_slc ?_ | with_reducible refine r_part ?_ | with_reducible refine r_noPart ?_)
local macro_rules | `(tactic| walk_at "nw") => `(tactic| (intro p hp; generalize hu : upd _ p _ = H1; obtain ⟨s1, hp1⟩ := nwx hp hu; clear hu))
local macro_rules | `(tactic| walk_at "q") => `(tactic| repeat walk_at "q1")
section
variable {P : Program} {w : World} {K : Fr} {mg : Str → Option Value} {base : Heap}
/-! ### the law's pen -/
/-- .. and lists of ints stand there -/
def PlI (l : Pl) (H : Hp) : Prop := (∃ ns, H l.na = some (intL ns)) ∧ ∃ ns, H l.ea = some (intL ns)
theorem PlI.ok {l : Pl} {H : Hp} (h : PlI l H) : PlOk l H := by
  obtain ⟨⟨a, e⟩, ⟨b, f⟩⟩ := h
  exact ⟨by rw [e]; simp, by rw [f]; simp⟩
theorem PlI.kpb {l : Pl} {H H' : Hp} (h : PlI l H) (k : KpB H H') : PlI l H' := by
  obtain ⟨⟨a, e⟩, ⟨b, f⟩⟩ := h
  exact ⟨⟨a, k _ _ e (isBag_intL _)⟩, ⟨b, k _ _ f (isBag_intL _)⟩⟩
def spPen : Sp := fun vs H Q _ => ∃ (b c t : Addr) (z : Sz) (k : Nat), vs = [.ref b, .ref t] ∧ z.Ok ∧ TzAt z t H ∧ k ≤ 600000 ∧ Bag b c k H ∧
  ∀ pt a d p l l2 H', H' pt = some (.tup [.ref a, .ref d]) → PenAt p a l H' → DrAt p d l2 H' → PlI l2 H' → p.Ok → Bag b c (k + 3000) H' → KpB H H' → Q (.ref pt) H'
theorem r_makeN {C : Addr} {n m : Nat} {sp : Sp} {gV : List V → List V → List V} {E : XK} {t tk : TA} {σ : L2.St} {H : Hp} {Q : VK} (h : t σ H fun vs H1 => tk σ H1 fun zs H2 => vs.length = n ∧ zs.length = m ∧
  ∀ x dx, H2 x = none → H2 dx = none → dx ≠ x → sp (gV (.ref x :: vs) zs) (upd (upd H2 dx (.own x)) x (.ins C dx [])) (fun v H3 => v = .non ∧ Q (.ref x) H3) E) : tMakeN C n m sp gV E t tk σ H Q := h
theorem ok_pen (T : Txt K mg) (c_law_draw : C8.Cal P w K mg base 1 "_law_draw" spDraw []) (c_law_any : C8.Cal P w K mg base 3 "_law_any" spAny []) (c_law_numbers : C8.Cal P w K mg base 4 "_law_numbers" spNums []) (c_law_noises : C8.Cal P w K mg base 4 "_law_noises" spNois [])
    (c_Made : C8.Mak P w K mg base 2 "Made" 678 spMade []) (c_is_number_list : C8.Cal P w K mg base 2 "_is_number_list" spNL []) : C8.Cal P w K mg base 6 "_law_pen" spPen [] := by
  have c_Listed := ok_Listed T c_is_number_list
  obtain ⟨kV, doc, pm, an, ct, FL⟩ := ok_Listed_fn T c_is_number_list
  have bL : KBn K (PySem.W.fnOf "__init__" "Listed.__init__" (C8.fnArgs (meth 50 0)) (C8.fnBody (meth 50 0)) (C8.fnScope (meth 50 0)) .none kV doc pm an (.ref 695) ct) ["self", "numbers", "noises"] 2 ["noises"] (fun us ws => us ++ ws) appV :=
    KBn.all (fun us ws h1 h2 => match us, ws, h1, h2 with | [_, _], [_], _, _ => rfl) vals_app
  have S : FnScope ["_law_bag_here", "_law_sz", "_law_way", "_law_seed", "_law_first", "_law_second"] ["_law_bag_here", "_law_sz"] (C8.fnScope (top 70)) := C8.fnScope_by (by decide +kernel)
  refine cal_of T.f_law_pen T.g_law_pen S (fun _ _ _ _ _ _ us hl => match us, hl with | [_, _], _ => rfl) (fun vs H Q E h => ?_) (fun cdv A outer s H vs Q E hr h => ?_)
  · obtain ⟨b, c, t, z, k, rfl, _⟩ := h
    rfl
  · obtain ⟨b, c, t, z, k, rfl, o, ht, hk, hb, h⟩ := h
    have ht' : H t = some (.tup [.int z.n, .int z.m, .int z.B, .int z.l, .int z.e, .int z.q]) := ht
    refine ⟨_, (pss_cons (ps_set (i := 2) S.nd rfl (Or.inl rfl) (C8.pe_c c_law_draw hr (by decide) rfl (pa_cons (pv 0) (pa_cons pe_int pa_nil))))
      (pss_cons (ps_if (pt_cmpR op_lt (pv 2) pe_int (nomark _)) (pss_cons (ps_set (i := 3) S.nd rfl (Or.inl rfl) (pe_ifExp (pt_cmpR op_eq (C8.pe_c c_law_draw hr (by decide) rfl (pa_cons (pv 0) (pa_cons pe_int pa_nil))) pe_int (nomark _)) (pe_ix (ix_listK (K := K) rfl) (pe_lst (pa_cons pe_int (pa_cons pe_int (pa_cons (pe_un un_neg pe_int) (pa_cons pe_int pa_nil))))) (pv 2) (fun _ _ => rfl)) (C8.pe_c c_law_any hr (by decide) rfl (pa_cons (pv 0) pa_nil))))
      (pss_one (ps_ret (pe_tup (pa_cons (C8.pe_mk c_Made hr (by decide) rfl (pa_cons (pv 3) pa_nil)) (pa_cons (pe_lst (pa_cons pe_int (pa_cons (pe_op op_mod (pe_callTy call_int1 rfl T.z_int (by decide +kernel) (pa_cons (pv 3) pa_nil)) pe_int) (pa_cons (pe_lst pa_nil) (pa_cons (pe_lst pa_nil) (pa_cons pe_int (pa_cons pe_int pa_nil))))))) pa_nil)))))) pss_nil)
      (pss_cons (ps_par (i := 4) (j := 5) rfl S.nd rfl rfl (by decide) rfl rfl (pa_cons (C8.pe_c c_law_numbers hr (by decide) rfl (pa_cons (pv 0) pa_nil)) (pa_cons (C8.pe_c c_law_noises hr (by decide) rfl (pa_cons (pv 0) (pa_cons (pe_ix (ix_tupK (K := K) rfl) (pv 1) pe_int (fun _ _ => rfl)) pa_nil))) pa_nil)) (by rfl))
      (pss_cons (ps_if (pt_cmpR op_eq (pv 2) pe_int (nomark _)) (pss_one (ps_ret (pe_tup (pa_cons (pe_makeN (n := 1) (E := C8.E0) T.k_Listed FL (hr.mono (by decide)) rfl T.g_Listed bL (fun _ _ _ _ _ _ _ h => h.elim) (pa_cons (pe_callTy call_tuple_of rfl T.z_tuple (by decide +kernel) (pa_cons (pv 4) pa_nil)) pa_nil) (pk_cons (pe_callTy call_tuple_of rfl T.z_tuple (by decide +kernel) (pa_cons (pv 5) pa_nil)) pk_nil)) (pa_cons (pe_lst (pa_cons pe_int (pa_cons pe_int (pa_cons (pv 4) (pa_cons (pv 5) (pa_cons pe_int (pa_cons pe_int pa_nil))))))) pa_nil))))) pss_nil)
      (pss_one (ps_ret (pe_tup (pa_cons (C8.pe_mk c_Listed hr (by decide) rfl (pa_cons (pe_callTy call_list_of rfl T.z_list (by decide +kernel) (pa_cons (pv 4) pa_nil)) (pa_cons (pe_callTy call_list_of rfl T.z_list (by decide +kernel) (pa_cons (pv 5) pa_nil)) pa_nil))) (pa_cons (pe_lst (pa_cons pe_int (pa_cons pe_int (pa_cons (pv 4) (pa_cons (pv 5) (pa_cons pe_int (pa_cons pe_int pa_nil))))))) pa_nil))))))))), ?_⟩
    have pm : Pm = 2305843009213693951 := rfl
    walk_at "q"
    refine ⟨b, c, _, k, rfl, by decide, by decide, by omega, hb, fun w H1 w0 w1 hb1 k1 => ?_⟩
    walk_at "q"
    -- a pen made of a seed
    have fin1 : ∀ (i : Int) (H2 : Hp) (k' : Nat), k' ≤ k + 100 → Bag b c k' H2 → KpB H H2 → ∀ x dx, H2 x = none → H2 dx = none → dx ≠ x → ∀ (p1 : Addr) (H4 : Hp), Same (upd (upd (upd H2 dx (.own x)) x (.ins 678 dx [])) x (.ins 678 dx [("_state", .int (i % Pm))])) H4 → H4 p1 = some (.lst []) →
        ∀ (p2 : Addr) (H5 : Hp), Same H4 H5 → H5 p2 = some (.lst []) → ∀ (pd : Addr) (H6 : Hp), Same H5 H6 → H6 pd = some (.lst [.int 0, .int (i % Pm), .ref p1, .ref p2, .int 0, .int 0]) → ∀ (pt : Addr) (H7 : Hp), Same H6 H7 → H7 pt = some (.tup [.ref x, .ref pd]) → Q (.ref pt) H7 := by
      intro i H2 k' hk' g2 kk x dx nx nd ne p1 H4 s4 h4 p2 H5 s5 h5 pd H6 s6 h6 pt H7 s7 h7
      have s2 : Same H2 (upd (upd (upd H2 dx (.own x)) x (.ins 678 dx [])) x (.ins 678 dx [("_state", .int (i % Pm))])) := by
        rw [upd_upd]; exact made_new nx nd ne
      have s47 := s5.trans (s6.trans s7)
      have s27 := s2.trans (s4.trans s47)
      have hx : H7 x = some (.ins 678 dx [("_state", .int (i % Pm))]) := s47 _ _ (s4 _ _ upd_same)
      exact h pt x pd (.made (i % Pm)) ⟨dx, x, x⟩ ⟨dx, p1, p2⟩ H7 h7 ⟨hx, rfl, rfl⟩ (s7 _ _ h6) ⟨⟨[], s47 _ _ h4⟩, ⟨[], s7 _ _ (s6 _ _ h5)⟩⟩ (pm_bd i) ((g2.same s27).mono (by omega)) (kk.trans (KpB.of s27))
    refine r_ite (fun lt => ?_) fun ge => ?_
    · walk_at "q"
      refine ⟨b, c, _, k + 1, rfl, by decide, by decide, by omega, hb1, fun d' H2 _ _ hb2 k2 => ?_⟩
      walk_at "q"
      have k12 := k1.trans k2
      refine r_ite (fun e => ?_) fun e => ?_
      · walk_at "q"
        refine ⟨(show (4 : Nat) ≤ sizeLine by decide), ?_⟩
        walk_at "nw"
        rename_i p4 n4 H3 s3 hp4
        walk_at "q"
        obtain ⟨j, rfl⟩ := Int.eq_ofNat_of_zero_le w0
        have hj : j < 4 := by omega
        have hx : ∃ x : Int, ([.int 7, .int 2305843009213693951, .int (-1), .int 0] : List V)[j]? = some (.int x) := by
          match j, hj with
          | 0, _ => exact ⟨_, rfl⟩
          | 1, _ => exact ⟨_, rfl⟩
          | 2, _ => exact ⟨_, rfl⟩
          | 3, _ => exact ⟨_, rfl⟩
        obtain ⟨i, hx⟩ := hx
        refine ⟨p4, _, _, _, rfl, rfl, SqL.of hp4, atI_nat hx, ?_⟩
        walk_at "q"
        intro x dx nx nd ne
        refine ⟨x, dx, i, rfl, upd_same, rfl, ?_⟩
        walk_at "q"
        refine .inl ⟨_, rfl, ?_⟩
        walk_at "q"
        refine r_I (by decide) ?_
        walk_at "q"
        refine ⟨by decide, ?_⟩
        walk_at "nw"
        rename_i p1 np1 H4 s4 hp1
        walk_at "q"
        refine ⟨by decide, ?_⟩
        walk_at "nw"
        rename_i p2 np2 H5 s5 hp2
        walk_at "q"
        refine ⟨(show (6 : Nat) ≤ sizeLine by decide), ?_⟩
        walk_at "nw"
        rename_i pd npd H6 s6 hpd
        walk_at "q"
        refine ⟨(show (2 : Nat) ≤ sizeLine by decide), fun pt npt => ?_⟩
        exact fin1 i H3 (k + 2) (by omega) (hb2.same s3) (k12.trans (KpB.of s3)) x dx nx nd ne p1 H4 s4 hp1 p2 H5 s5 hp2 pd H6 s6 hpd pt _ (same_upd npt) upd_same
      · walk_at "q"
        refine ⟨b, c, _, rfl, by omega, hb2, fun i H3 hb3 k3 => ?_⟩
        walk_at "q"
        intro x dx nx nd ne
        refine ⟨x, dx, i, rfl, upd_same, rfl, ?_⟩
        walk_at "q"
        refine .inl ⟨_, rfl, ?_⟩
        walk_at "q"
        refine r_I (by decide) ?_
        walk_at "q"
        refine ⟨by decide, ?_⟩
        walk_at "nw"
        rename_i p1 np1 H4 s4 hp1
        walk_at "q"
        refine ⟨by decide, ?_⟩
        walk_at "nw"
        rename_i p2 np2 H5 s5 hp2
        walk_at "q"
        refine ⟨(show (6 : Nat) ≤ sizeLine by decide), ?_⟩
        walk_at "nw"
        rename_i pd npd H6 s6 hpd
        walk_at "q"
        refine ⟨(show (2 : Nat) ≤ sizeLine by decide), fun pt npt => ?_⟩
        exact fin1 i H3 _ (by omega) hb3 (k12.trans k3) x dx nx nd ne p1 H4 s4 hp1 p2 H5 s5 hp2 pd H6 s6 hpd pt _ (same_upd npt) upd_same
    · walk_at "q"
      refine ⟨b, c, _, rfl, by omega, hb1, fun nr ns H2 nne nl hnr hb2 k2 => ?_⟩
      have k12 := k1.trans k2
      walk_at "q"
      refine ⟨t, _, 4, _, rfl, rfl, SqT.of (k12 _ _ ht' rfl), rfl, ?_⟩
      walk_at "q"
      refine ⟨b, c, z.e, _, rfl, o.e1, by omega, hb2, fun er es H3 ene el her hb3 k3 => ?_⟩
      walk_at "q"
      have k13 := k12.trans k3
      have hnr3 := k3 _ _ hnr (isBag_intL ns)
      have pok : (Pen.lst ns es 0 0).Ok := ⟨nne, ene, nl, el⟩
      have fin2 : ∀ (x : Addr) (l : Pl) (H4 : Hp), Same H3 H4 → PenAt (.lst ns es 0 0) x l H4 → ∀ (pd : Addr) (H6 : Hp), Same H4 H6 → H6 pd = some (.lst [.int 1, .int 0, .ref nr, .ref er, .int 0, .int 0]) → ∀ (pt : Addr) (H7 : Hp), Same H6 H7 → H7 pt = some (.tup [.ref x, .ref pd]) → Q (.ref pt) H7 := by
        intro x l H4 s4 p4 pd H6 s6 h6 pt H7 s7 h7
        have s67 := s6.trans s7
        have s37 := s4.trans s67
        have hn7 := s37 _ _ hnr3
        have he7 := s37 _ _ her
        exact h pt x pd (.lst ns es 0 0) l ⟨0, nr, er⟩ H7 h7 (p4.same s67) ⟨s7 _ _ h6, hn7, he7⟩ ⟨⟨ns, hn7⟩, ⟨es, he7⟩⟩ pok ((hb3.same s37).mono (by omega)) (k13.trans (KpB.of s37))
      refine r_ite (fun e4 => ?_) fun e4 => ?_
      · refine r_ret (r_tup (r_cons (r_makeN ?_)))
        walk_at "q"
        refine ⟨nr, _, rfl, .inl ⟨SqL.of hnr3, fun ta nta => ?_⟩⟩
        generalize hu : upd H3 ta _ = H4
        obtain ⟨s4, hta⟩ := nwx nta hu
        clear hu
        walk_at "q"
        refine ⟨er, _, rfl, .inl ⟨SqL.of (s4 _ _ her), fun tb ntb => ?_⟩⟩
        generalize hu : upd H4 tb _ = H5
        obtain ⟨s5, htb⟩ := nwx ntb hu
        clear hu
        walk_at "q"
        refine ⟨rfl, rfl, fun x dx nx nd ne => ?_⟩
        have s6 := made_new (o := .ins 720 dx []) (u := .own x) nx nd ne
        refine ⟨x, dx, ta, tb, ns, es, rfl, upd_same, .inr (s6 _ _ (s5 _ _ hta)), .inr (s6 _ _ htb), pok, fun l H7 k7 p7 => ⟨rfl, ?_⟩⟩
        have s37 : Same H3 H7 := s4.trans (s5.trans fun b u e => k7 _ _ (ne_of_none e nx) (s6 _ _ e))
        walk_at "q"
        refine ⟨(show (6 : Nat) ≤ sizeLine by decide), ?_⟩
        walk_at "nw"
        rename_i pd npd H8 s8 hpd
        walk_at "q"
        refine ⟨(show (2 : Nat) ≤ sizeLine by decide), fun pt npt => ?_⟩
        exact fin2 x l H7 s37 p7 pd H8 s8 hpd pt _ (same_upd npt) upd_same
      · walk_at "q"
        refine ⟨nr, _, rfl, .inl (SqL.of hnr3), fun ta nta => ?_⟩
        generalize hu : upd H3 ta _ = H4
        obtain ⟨s4, hta⟩ := nwx nta hu
        clear hu
        walk_at "q"
        refine ⟨er, _, rfl, .inl (SqL.of (s4 _ _ her)), fun tb ntb => ?_⟩
        generalize hu : upd H4 tb _ = H5
        obtain ⟨s5, htb⟩ := nwx ntb hu
        clear hu
        walk_at "q"
        intro x dx nx nd ne
        have s6 := made_new (o := .ins 720 dx []) (u := .own x) nx nd ne
        refine ⟨x, dx, ta, tb, ns, es, rfl, upd_same, .inl (s6 _ _ (s5 _ _ hta)), .inl (s6 _ _ htb), pok, fun l H7 k7 p7 => ⟨rfl, ?_⟩⟩
        have s37 : Same H3 H7 := s4.trans (s5.trans fun b u e => k7 _ _ (ne_of_none e nx) (s6 _ _ e))
        walk_at "q"
        refine ⟨(show (6 : Nat) ≤ sizeLine by decide), ?_⟩
        walk_at "nw"
        rename_i pd npd H8 s8 hpd
        walk_at "q"
        refine ⟨(show (2 : Nat) ≤ sizeLine by decide), fun pt npt => ?_⟩
        exact fin2 x l H7 s37 p7 pd H8 s8 hpd pt _ (same_upd npt) upd_same
end
end K20

set_option Elab.async false
set_option linter.all false
set_option maxRecDepth 100000
set_option maxHeartbeats 4000000
/-! K20: ends of iterators while an exception is handled. -/
namespace PySem
namespace K20H
open HotX
section
variable {prog : Program} {w : World} {A : Around} {E : Value → Shared → Prop} {s : Shared}
/-- a StopIteration, made and raised -/
theorem stop_hot {α : Type} {x1 : Addr} {Q : α → Shared → Prop} (hot : HotAt A x1 s.heap) (q : ∀ h2 e, (∀ b o, s.heap.get? b = some o → h2.get? b = some o) → (∃ o, h2.get? e = some o ∧ o.cls = .type "StopIteration") → E (.ref e) { s with heap := h2 }) :
    wpAny (model prog w) A (newExc (.type "StopIteration") [] >>= fun x => (raiseNew x : Sem α)) Q E s := by
  obtain ⟨hh, o1, v1, g1, d1, c1⟩ := hot
  refine wpAny_bind ?_
  simp only [newExc, newTuple]
  refine wpAny_bind (wpAny_newObj_type ?_ (by size_fits))
  refine wpAny_bind (m := firstArgMember _ _) (wpAny_of_eq (a := Value.none) (by first | rfl | (simp only [firstArgMember]; rfl)) ?_)
  refine wpAny_newObj_type ?_ (by size_fits)
  refine raiseNew_hot ⟨hh, o1, v1, Heap.get?_push_of_some _ (Heap.get?_push_of_some _ g1), d1, c1⟩ (Nat.ne_of_lt (Heap.lt_size (Heap.get?_push_of_some _ g1))) (Heap.get?_push_size _ rfl) rfl (by first | (simp; done) | (simp; omega) | (simp only [Array.size_append]; simp; omega)) ?_
  refine q _ _ (fun b o e => ?_) ⟨_, Heap.get?_update_self _ (Heap.get?_push_size _ rfl) rfl, rfl⟩
  rw [Heap.get?_update_other _ _ (Nat.ne_of_gt (Heap.lt_size (Heap.get?_push_of_some _ e)))]
  exact Heap.get?_push_of_some _ (Heap.get?_push_of_some _ e)
theorem HotAt.ext {x1 : Addr} {h h2 : Heap} (hot : HotAt A x1 h) (k : ∀ o, h.get? x1 = some o → h2.get? x1 = some o) : HotAt A x1 h2 := let ⟨hh, o, vs, a, b, c⟩ := hot; ⟨hh, o, vs, k o a, b, c⟩
/-- a list's iterator at its end -/
theorem nextL {it b x1 : Addr} {i : Nat} {xs : Array Value} {Q : Value → Shared → Prop} (hot : HotAt A x1 s.heap) (nx : x1 ≠ it) (hi : s.heap.IsListIter it b i) (hB : s.heap.IsList b xs) (hx : xs[i]? = none)
    (q : ∀ h2 e, Heap.ExtBut it s.heap h2 → (∃ o, h2.get? e = some o ∧ o.cls = .type "StopIteration") → E (.ref e) { s with heap := h2 }) : wpAny (model prog w) A (Builtin.SmallTypes.nextOf (.ref it)) Q E s := by
  obtain ⟨o, ho, hc, hd⟩ := id hi
  obtain ⟨ol, hol, _, nl, hdl⟩ := hB
  unfold Builtin.SmallTypes.nextOf
  refine wpAny_bind (wpAny_callSpecial?_slot (name := Str.ofString "__next__") hi.typeIs slot_listiter_next (wpAny_call_entry slot_listiter_next hi.typeIs entry_listiter_next ?_ (args_listiter_next _)))
  show wpAny _ _ (field (.ref it) 0 >>= _) _ _ s
  refine wpAny_bind (wpAny_field ho hd (x := .ref b) rfl ?_)
  show wpAny _ _ (if (Value.ref b == Value.none) = true then _ else _) _ _ s
  rw [if_neg (show ¬ ((Value.ref b == Value.none) = true) from Bool.false_ne_true)]
  show wpAny _ _ (field (.ref it) 1 >>= _) _ _ s
  refine wpAny_bind (wpAny_field ho hd (x := .int i 0) rfl ?_)
  show wpAny _ _ (seqItems? (.ref b) >>= _) _ _ s
  refine wpAny_bind (wpAny_seqItems hol hdl ?_)
  simp only [Int.toNat_natCast, hx]
  refine wpAny_bind (wpAny_rule (wpAny_bind (wpAny_setField ho hd (by simp) ?_)))
  have sb : ∀ f, Heap.ExtBut it s.heap (s.heap.update it f) := fun f => (Heap.SameBut.update ..).extBut
  exact stop_hot (A := A.in1) (HotAt.ext (A := A.in1) hot fun o e => sb _ _ _ nx e) fun h2 e k he => q h2 e (fun c o n z => k c o (sb _ c o n z)) he
/-- a tuple's iterator at its end -/
theorem nextT {it b x1 : Addr} {i : Nat} {xs : Array Value} {Q : Value → Shared → Prop} (hot : HotAt A x1 s.heap) (nx : x1 ≠ it) (hi : s.heap.IsTupleIter it b i) (hB : s.heap.IsTuple b xs) (hx : xs[i]? = none)
    (q : ∀ h2 e, Heap.ExtBut it s.heap h2 → (∃ o, h2.get? e = some o ∧ o.cls = .type "StopIteration") → E (.ref e) { s with heap := h2 }) : wpAny (model prog w) A (Builtin.SmallTypes.nextOf (.ref it)) Q E s := by
  obtain ⟨o, ho, hc, hd⟩ := id hi
  obtain ⟨ol, hol, _, nl, hdl⟩ := hB
  unfold Builtin.SmallTypes.nextOf
  refine wpAny_bind (wpAny_callSpecial?_slot (name := Str.ofString "__next__") hi.typeIs F.slot_tuple_iterator_next (wpAny_call_entry F.slot_tuple_iterator_next hi.typeIs F.entry_tuple_iterator_next ?_ (F.args_tuple_iterator_next_1 _)))
  show wpAny _ _ (field (.ref it) 0 >>= _) _ _ s
  refine wpAny_bind (wpAny_field ho hd (x := .ref b) rfl ?_)
  show wpAny _ _ (if (Value.ref b == Value.none) = true then _ else _) _ _ s
  rw [if_neg (show ¬ ((Value.ref b == Value.none) = true) from Bool.false_ne_true)]
  show wpAny _ _ (field (.ref it) 1 >>= _) _ _ s
  refine wpAny_bind (wpAny_field ho hd (x := .int i 0) rfl ?_)
  show wpAny _ _ (seqItems? (.ref b) >>= _) _ _ s
  refine wpAny_bind (wpAny_seqItems hol hdl ?_)
  simp only [Int.toNat_natCast, hx]
  refine wpAny_bind (wpAny_rule (wpAny_bind (wpAny_setField ho hd (by simp) ?_)))
  have sb : ∀ f, Heap.ExtBut it s.heap (s.heap.update it f) := fun f => (Heap.SameBut.update ..).extBut
  exact stop_hot (A := A.in1) (HotAt.ext (A := A.in1) hot fun o e => sb _ _ _ nx e) fun h2 e k he => q h2 e (fun c o n z => k c o (sb _ c o n z)) he
/-- the same by next(..) -/
theorem pyNextL {it b x1 : Addr} {i : Nat} {xs : Array Value} {Q : Option Value → Shared → Prop} (hot : HotAt A x1 s.heap) (nx : x1 ≠ it) (hi : s.heap.IsListIter it b i) (hB : s.heap.IsList b xs) (hx : xs[i]? = none)
    (q : ∀ h2, Heap.ExtBut it s.heap h2 → Q none { s with heap := h2 }) : wpAny (model prog w) A (pyNext (.ref it)) Q E s := by
  obtain ⟨o, ho, hc, hd⟩ := id hi
  obtain ⟨ol, hol, _, nl, hdl⟩ := hB
  unfold pyNext
  refine wpAny_bind (wpAny_attempt (wpAny_callSpecial?_slot (name := Str.ofString "__next__") hi.typeIs slot_listiter_next (wpAny_call_entry slot_listiter_next hi.typeIs entry_listiter_next ?_ (args_listiter_next _))))
  show wpAny _ _ (field (.ref it) 0 >>= _) _ _ s
  refine wpAny_bind (wpAny_field ho hd (x := .ref b) rfl ?_)
  show wpAny _ _ (if (Value.ref b == Value.none) = true then _ else _) _ _ s
  rw [if_neg (show ¬ ((Value.ref b == Value.none) = true) from Bool.false_ne_true)]
  show wpAny _ _ (field (.ref it) 1 >>= _) _ _ s
  refine wpAny_bind (wpAny_field ho hd (x := .int i 0) rfl ?_)
  show wpAny _ _ (seqItems? (.ref b) >>= _) _ _ s
  refine wpAny_bind (wpAny_seqItems hol hdl ?_)
  simp only [Int.toNat_natCast, hx]
  refine wpAny_bind (wpAny_rule (wpAny_bind (wpAny_setField ho hd (by simp) ?_)))
  have sb : ∀ f, Heap.ExtBut it s.heap (s.heap.update it f) := fun f => (Heap.SameBut.update ..).extBut
  refine stop_hot (A := A.in1) (HotAt.ext (A := A.in1) hot fun o e => sb _ _ _ nx e) fun h2 e k he => ?_
  obtain ⟨oe, hoe, hce⟩ := he
  refine wpAny_bind (wpAny_isInstance (T := "StopIteration") (b := true) ⟨oe, hoe, hce⟩ isSubtype_stop ?_)
  exact wpAny_pure (q h2 fun c o n z => k c o (sb _ c o n z))
theorem pyNextT {it b x1 : Addr} {i : Nat} {xs : Array Value} {Q : Option Value → Shared → Prop} (hot : HotAt A x1 s.heap) (nx : x1 ≠ it) (hi : s.heap.IsTupleIter it b i) (hB : s.heap.IsTuple b xs) (hx : xs[i]? = none)
    (q : ∀ h2, Heap.ExtBut it s.heap h2 → Q none { s with heap := h2 }) : wpAny (model prog w) A (pyNext (.ref it)) Q E s := by
  obtain ⟨o, ho, hc, hd⟩ := id hi
  obtain ⟨ol, hol, _, nl, hdl⟩ := hB
  unfold pyNext
  refine wpAny_bind (wpAny_attempt (wpAny_callSpecial?_slot (name := Str.ofString "__next__") hi.typeIs F.slot_tuple_iterator_next (wpAny_call_entry F.slot_tuple_iterator_next hi.typeIs F.entry_tuple_iterator_next ?_ (F.args_tuple_iterator_next_1 _))))
  show wpAny _ _ (field (.ref it) 0 >>= _) _ _ s
  refine wpAny_bind (wpAny_field ho hd (x := .ref b) rfl ?_)
  show wpAny _ _ (if (Value.ref b == Value.none) = true then _ else _) _ _ s
  rw [if_neg (show ¬ ((Value.ref b == Value.none) = true) from Bool.false_ne_true)]
  show wpAny _ _ (field (.ref it) 1 >>= _) _ _ s
  refine wpAny_bind (wpAny_field ho hd (x := .int i 0) rfl ?_)
  show wpAny _ _ (seqItems? (.ref b) >>= _) _ _ s
  refine wpAny_bind (wpAny_seqItems hol hdl ?_)
  simp only [Int.toNat_natCast, hx]
  refine wpAny_bind (wpAny_rule (wpAny_bind (wpAny_setField ho hd (by simp) ?_)))
  have sb : ∀ f, Heap.ExtBut it s.heap (s.heap.update it f) := fun f => (Heap.SameBut.update ..).extBut
  refine stop_hot (A := A.in1) (HotAt.ext (A := A.in1) hot fun o e => sb _ _ _ nx e) fun h2 e k he => ?_
  obtain ⟨oe, hoe, hce⟩ := he
  refine wpAny_bind (wpAny_isInstance (T := "StopIteration") (b := true) ⟨oe, hoe, hce⟩ isSubtype_stop ?_)
  exact wpAny_pure (q h2 fun c o n z => k c o (sb _ c o n z))
/-- unpacking a tuple -/
theorem unpackT {t x1 : Addr} {items : Array Value} {targets : List (Bool × (Value → Sem Unit))} {Q : Unit → Shared → Prop} (hot : HotAt A x1 s.heap) (ht : PyProof.Rows.IsTup s.heap t items) (hn : targets.length = items.size) (hstar : targets.findIdx? (·.1) = none)
    (q : ∀ h2, Heap.ExtBut s.heap.objs.size s.heap h2 → wpAny (model prog w) A (assignInOrder (targets.map (·.2)) items.toList) Q E { s with heap := h2 }) : wpAny (model prog w) A (unpack (.ref t) targets) Q E s := by
  have lt : t ≠ s.heap.objs.size := by obtain ⟨o, ho, _⟩ := ht; exact Nat.ne_of_lt (Heap.lt_size ho)
  have lx : x1 ≠ s.heap.objs.size := by obtain ⟨_, o, vs, ho, _⟩ := hot; exact Nat.ne_of_lt (Heap.lt_size ho)
  unfold unpack
  rw [hn, hstar]
  refine wpAny_bind (wpAny_holding ?_)
  unfold unpackItems
  refine wpAny_bind ?_
  unfold notIterableAtAll
  refine wpAny_bind (wpAny_specialOf ht.typeIs PyProof.Rows.slot_tuple_iter.lookup ?_)
  refine wpAny_pure ?_
  simp only [Bool.false_eq_true, if_false]
  refine wpAny_bind (wpAny_holding (PyProof.Rows.iter_tuple ht ?_))
  refine wpAny_bind (wpAny_holding (PyProof.Rows.draw_tuple lt items.size 0 _ _ ⟨_, Heap.get?_push_size _ rfl, rfl, rfl⟩ (ht.push _) (by omega) fun h1 hi1 sb1 => ?_))
  have all : List.take items.size (List.drop 0 items.toList) = items.toList := by
    rw [List.drop_zero]; exact List.take_of_length_le (by simp)
  rw [all, if_neg (by simp)]
  have ht1 : PyProof.Rows.IsTup h1 t items := (ht.push _).extBut sb1.extBut lt
  have hot1 : HotAt A x1 h1 := HotAt.ext hot fun o e => sb1.extBut _ _ lx (Heap.get?_push_of_some _ e)
  refine wpAny_bind (wpAny_holding (pyNextT (s := { s with heap := h1 }) hot1 lx hi1 ht1 (by simp) fun h2 k2 => ?_))
  simp only [Option.isSome_none, Bool.false_eq_true, if_false]
  exact wpAny_pure (q h2 fun b o n e => k2 b o n (sb1.extBut b o n (Heap.get?_push_of_some _ e)))
/-- a list walked by a builtin -/
theorem walksL {I b x1 : Addr} {o1 : Obj} {v1 : Array Value} (hh : A.handled = some (.ref x1)) (d1 : o1.data = .fields v1) (c1 : v1[2]? = some .none) (nx : x1 ≠ I) (nb : b ≠ I) (xs : Array Value) :
    Walks prog w A I [I, b, x1] [I] xs.size (fun k u => xs[k]? = some u) (fun k h => h.IsListIter I b k ∧ h.IsList b xs ∧ h.get? x1 = some o1) where
  sub := fun c hc => by simp at hc; simp [hc]
  frame := fun _ _ _ st kk => ⟨st.1.at fun o e => kk I (by simp) o e, st.2.1.at fun o e => kk b (by simp) o e, kk x1 (by simp) _ st.2.2⟩
  item := fun k s Q E lk st q => by
    refine wpAny_pyNext_list_item st.1 st.2.1 (x := xs[k]) (by simp [lk]) fun h2 hi2 sb => ?_
    exact q _ h2 s.toks (by simp [lk]) ⟨hi2, st.2.1.extBut sb.extBut nb, sb.extBut _ _ nx st.2.2⟩ fun c o hc e => sb.extBut c o (fun z => hc (by simp [z])) e
  done := fun s Q E st q => pyNextL ⟨hh, o1, v1, st.2.2, d1, c1⟩ nx st.1 st.2.1 (by simp) fun h2 k2 => q h2 s.toks fun c o hc e => k2 c o (fun z => hc (by simp [z])) e
  self := fun _ _ _ _ st q => wpAny_pyIter_listiter st.1 q
end
end K20H
end PySem

set_option Elab.async false
set_option linter.all false
set_option maxRecDepth 100000
set_option maxHeartbeats 4000000
/-! K20: zip, tuples unpacked, all(..) and comprehensions while an exception is handled. -/
namespace PySem
namespace K20H
open HotX
section
variable {prog : Program} {w : World} {A : Around} {E : Value → Shared → Prop} {s : Shared}
theorem zipEndL {z TI TO i1 i2 l1 l2 x1 : Addr} {k1 k2 : Nat} {xs ys : Array Value} {a b : Value} {Q : Fin → Shared → Prop} (hot : HotAt A x1 s.heap) (nz : x1 ≠ z) (nO : x1 ≠ TO) (n1 : x1 ≠ i1) (n2 : x1 ≠ i2) (D : ZipApart z TI TO i1 i2 l1 l2)
    (hz : IsZip s.heap z TI TO .none) (hI : IsPair s.heap TI (.ref i1) (.ref i2)) (hO : IsPair s.heap TO a b) (g1 : s.heap.IsListIter i1 l1 k1) (g2 : s.heap.IsListIter i2 l2 k2) (e1 : s.heap.IsList l1 xs) (e2 : s.heap.IsList l2 ys) (fin : xs[k1]? = none ∨ ys[k2]? = none)
    (q : ∀ h2 e, (∀ c o, c ≠ z → c ≠ TO → c ≠ i1 → c ≠ i2 → s.heap.get? c = some o → h2.get? c = some o) → (∃ o, h2.get? e = some o ∧ o.cls = .type "StopIteration") → E (.ref e) { s with heap := h2 }) :
    wpAny (model prog w) A (Builtin.«zip.__next__» ⟨[.ref z], []⟩) Q E s := by
  show wpAny _ _ (field (.ref z) 2 >>= _) _ _ _
  refine wpAny_bind (wpAny_field hz rfl (x := .bool false) rfl ?_)
  show wpAny _ _ (field (.ref z) 3 >>= _) _ _ _
  refine wpAny_bind (wpAny_field hz rfl (x := .ref TI) rfl ?_)
  refine wpAny_bind (wpAny_seqItems hI rfl ?_)
  show wpAny _ _ (Builtin.SmallTypes.ownedTupleIsFree (.ref z) >>= _) _ _ _
  refine wpAny_bind ?_
  unfold Builtin.SmallTypes.ownedTupleIsFree
  refine wpAny_bind (wpAny_field hz rfl (x := .none) rfl (wpAny_pure ?_))
  simp only [if_true]
  refine wpAny_bind (wpAny_rule ?_)
  refine wpAny_bind (wpAny_field hz rfl (x := .ref TO) rfl ?_)
  refine wpAny_bind (wpAny_setField_rec hz (by simp) fun ha za sa => ?_)
  replace za : IsZip ha z TI TO .ellipsis := za
  have hotA : HotAt A x1 ha := HotAt.ext hot fun o e => sa.extBut _ _ nz e
  refine wpAny_bind ?_
  simp only [List.zipIdx_cons, List.zipIdx_nil, List.forIn_cons, List.forIn_nil]
  refine wpAny_bind (wpAny_bind (wpAny_onRaise ?_))
  show wpAny _ _ (Builtin.SmallTypes.nextOf (.ref i1) >>= _) _ _ _
  cases hx : xs[k1]? with
  | none =>
    refine wpAny_bind (nextL (s := { s with heap := ha }) hotA n1 (g1.extBut sa.extBut D.i1z) (e1.extBut sa.extBut D.l1z) hx fun hb e kb he => ?_)
    obtain ⟨oe, hoe, hce⟩ := he
    have zb : IsZip hb z TI TO .ellipsis := kb _ _ D.i1z.symm za
    have nez : e ≠ z := fun x => by subst x; rw [zb] at hoe; cases hoe; simp at hce
    refine wpAny_setField_rec zb (by simp) fun hc _ sc => q hc e (fun c o c1 _ c3 _ x => sc.extBut _ _ c1 (kb _ _ c3 (sa.extBut _ _ c1 x))) ⟨oe, sc.extBut _ _ nez hoe, hce⟩
  | some x =>
    have hy : ys[k2]? = none := by
      rcases fin with h | h
      · rw [hx] at h; cases h
      · exact h
    refine wpAny_bind (wpAny_nextOf_list_item (g1.extBut sa.extBut D.i1z) (e1.extBut sa.extBut D.l1z) hx fun hb g1b sb => wpAny_pure ?_)
    have Ob : IsPair hb TO a b := sb.extBut _ _ D.TOi1 (sa.extBut _ _ D.TOz hO)
    refine wpAny_bind (wpAny_seqItems Ob rfl ?_)
    refine wpAny_bind (wpAny_updateSeq_pair Ob fun hc Oc sc => ?_)
    have hotC : HotAt A x1 hc := HotAt.ext hotA fun o e => sc.extBut _ _ nO (sb.extBut _ _ n1 e)
    refine wpAny_bind (wpAny_letGo (wpAny_pure ?_))
    refine wpAny_bind (wpAny_bind (wpAny_onRaise ?_))
    show wpAny _ _ (Builtin.SmallTypes.nextOf (.ref i2) >>= _) _ _ _
    refine wpAny_bind (nextL (s := { s with heap := hc }) hotC n2 (((g2.extBut sa.extBut D.i2z).extBut sb.extBut D.i12.symm).extBut sc.extBut D.TOi2.symm)
      (((e2.extBut sa.extBut D.l2z).extBut sb.extBut D.l2i1).extBut sc.extBut D.l2TO) hy fun hd e kd he => ?_)
    obtain ⟨oe, hoe, hce⟩ := he
    have zd : IsZip hd z TI TO .ellipsis := kd _ _ D.i2z.symm (sc.extBut _ _ D.TOz.symm (sb.extBut _ _ D.i1z.symm za))
    have nez : e ≠ z := fun x => by subst x; rw [zd] at hoe; cases hoe; simp at hce
    refine wpAny_setField_rec zd (by simp) fun hf _ sf => q hf e (fun c o c1 c2 c3 c4 x => sf.extBut _ _ c1 (kd _ _ c4 (sc.extBut _ _ c2 (sb.extBut _ _ c3 (sa.extBut _ _ c1 x))))) ⟨oe, sf.extBut _ _ nez hoe, hce⟩
theorem pyZipL {z TI TO i1 i2 l1 l2 x1 : Addr} {k1 k2 : Nat} {xs ys : Array Value} {a b : Value} {Q : Option Value → Shared → Prop} (hot : HotAt A x1 s.heap) (nz : x1 ≠ z) (nO : x1 ≠ TO) (n1 : x1 ≠ i1) (n2 : x1 ≠ i2) (D : ZipApart z TI TO i1 i2 l1 l2)
    (hz : IsZip s.heap z TI TO .none) (hI : IsPair s.heap TI (.ref i1) (.ref i2)) (hO : IsPair s.heap TO a b) (g1 : s.heap.IsListIter i1 l1 k1) (g2 : s.heap.IsListIter i2 l2 k2) (e1 : s.heap.IsList l1 xs) (e2 : s.heap.IsList l2 ys) (fin : xs[k1]? = none ∨ ys[k2]? = none)
    (q : ∀ h2, (∀ c o, c ≠ z → c ≠ TO → c ≠ i1 → c ≠ i2 → s.heap.get? c = some o → h2.get? c = some o) → Q none { s with heap := h2 }) : wpAny (model prog w) A (pyNext (.ref z)) Q E s := by
  have hT : s.TypeIs (.ref z) "zip" := ⟨_, hz, rfl⟩
  unfold pyNext
  refine wpAny_bind (wpAny_attempt (wpAny_callSpecial?_slot (name := Str.ofString "__next__") hT F.slot_zip_next
    (wpAny_call_entry F.slot_zip_next hT F.entry_zip_next (zipEndL (A := A.in1) hot nz nO n1 n2 D hz hI hO g1 g2 e1 e2 fin fun h2 e hk he => ?_) (F.args_zip_next_1 _))))
  obtain ⟨o, ho, hc⟩ := he
  refine wpAny_bind (wpAny_isInstance (T := "StopIteration") (b := true) ⟨o, ho, hc⟩ isSubtype_stop ?_)
  exact wpAny_pure (q _ hk)
theorem zipEndT {z TI TO i1 i2 l1 l2 x1 : Addr} {k1 k2 : Nat} {xs ys : Array Value} {a b : Value} {Q : Fin → Shared → Prop} (hot : HotAt A x1 s.heap) (nz : x1 ≠ z) (nO : x1 ≠ TO) (n1 : x1 ≠ i1) (n2 : x1 ≠ i2) (D : ZipApart z TI TO i1 i2 l1 l2)
    (hz : IsZip s.heap z TI TO .none) (hI : IsPair s.heap TI (.ref i1) (.ref i2)) (hO : IsPair s.heap TO a b) (g1 : s.heap.IsTupleIter i1 l1 k1) (g2 : s.heap.IsTupleIter i2 l2 k2) (e1 : s.heap.IsTuple l1 xs) (e2 : s.heap.IsTuple l2 ys) (fin : xs[k1]? = none ∨ ys[k2]? = none)
    (q : ∀ h2 e, (∀ c o, c ≠ z → c ≠ TO → c ≠ i1 → c ≠ i2 → s.heap.get? c = some o → h2.get? c = some o) → (∃ o, h2.get? e = some o ∧ o.cls = .type "StopIteration") → E (.ref e) { s with heap := h2 }) :
    wpAny (model prog w) A (Builtin.«zip.__next__» ⟨[.ref z], []⟩) Q E s := by
  show wpAny _ _ (field (.ref z) 2 >>= _) _ _ _
  refine wpAny_bind (wpAny_field hz rfl (x := .bool false) rfl ?_)
  show wpAny _ _ (field (.ref z) 3 >>= _) _ _ _
  refine wpAny_bind (wpAny_field hz rfl (x := .ref TI) rfl ?_)
  refine wpAny_bind (wpAny_seqItems hI rfl ?_)
  show wpAny _ _ (Builtin.SmallTypes.ownedTupleIsFree (.ref z) >>= _) _ _ _
  refine wpAny_bind ?_
  unfold Builtin.SmallTypes.ownedTupleIsFree
  refine wpAny_bind (wpAny_field hz rfl (x := .none) rfl (wpAny_pure ?_))
  simp only [if_true]
  refine wpAny_bind (wpAny_rule ?_)
  refine wpAny_bind (wpAny_field hz rfl (x := .ref TO) rfl ?_)
  refine wpAny_bind (wpAny_setField_rec hz (by simp) fun ha za sa => ?_)
  replace za : IsZip ha z TI TO .ellipsis := za
  have hotA : HotAt A x1 ha := HotAt.ext hot fun o e => sa.extBut _ _ nz e
  refine wpAny_bind ?_
  simp only [List.zipIdx_cons, List.zipIdx_nil, List.forIn_cons, List.forIn_nil]
  refine wpAny_bind (wpAny_bind (wpAny_onRaise ?_))
  show wpAny _ _ (Builtin.SmallTypes.nextOf (.ref i1) >>= _) _ _ _
  cases hx : xs[k1]? with
  | none =>
    refine wpAny_bind (nextT (s := { s with heap := ha }) hotA n1 (g1.extBut sa.extBut D.i1z) (e1.extBut sa.extBut D.l1z) hx fun hb e kb he => ?_)
    obtain ⟨oe, hoe, hce⟩ := he
    have zb : IsZip hb z TI TO .ellipsis := kb _ _ D.i1z.symm za
    have nez : e ≠ z := fun x => by subst x; rw [zb] at hoe; cases hoe; simp at hce
    refine wpAny_setField_rec zb (by simp) fun hc _ sc => q hc e (fun c o c1 _ c3 _ x => sc.extBut _ _ c1 (kb _ _ c3 (sa.extBut _ _ c1 x))) ⟨oe, sc.extBut _ _ nez hoe, hce⟩
  | some x =>
    have hy : ys[k2]? = none := by
      rcases fin with h | h
      · rw [hx] at h; cases h
      · exact h
    refine wpAny_bind (RZ.nextOf_tuple_item (g1.extBut sa.extBut D.i1z) (e1.extBut sa.extBut D.l1z) hx fun hb g1b sb => wpAny_pure ?_)
    have Ob : IsPair hb TO a b := sb.extBut _ _ D.TOi1 (sa.extBut _ _ D.TOz hO)
    refine wpAny_bind (wpAny_seqItems Ob rfl ?_)
    refine wpAny_bind (wpAny_updateSeq_pair Ob fun hc Oc sc => ?_)
    have hotC : HotAt A x1 hc := HotAt.ext hotA fun o e => sc.extBut _ _ nO (sb.extBut _ _ n1 e)
    refine wpAny_bind (wpAny_letGo (wpAny_pure ?_))
    refine wpAny_bind (wpAny_bind (wpAny_onRaise ?_))
    show wpAny _ _ (Builtin.SmallTypes.nextOf (.ref i2) >>= _) _ _ _
    refine wpAny_bind (nextT (s := { s with heap := hc }) hotC n2 (((g2.extBut sa.extBut D.i2z).extBut sb.extBut D.i12.symm).extBut sc.extBut D.TOi2.symm)
      (((e2.extBut sa.extBut D.l2z).extBut sb.extBut D.l2i1).extBut sc.extBut D.l2TO) hy fun hd e kd he => ?_)
    obtain ⟨oe, hoe, hce⟩ := he
    have zd : IsZip hd z TI TO .ellipsis := kd _ _ D.i2z.symm (sc.extBut _ _ D.TOz.symm (sb.extBut _ _ D.i1z.symm za))
    have nez : e ≠ z := fun x => by subst x; rw [zd] at hoe; cases hoe; simp at hce
    refine wpAny_setField_rec zd (by simp) fun hf _ sf => q hf e (fun c o c1 c2 c3 c4 x => sf.extBut _ _ c1 (kd _ _ c4 (sc.extBut _ _ c2 (sb.extBut _ _ c3 (sa.extBut _ _ c1 x))))) ⟨oe, sf.extBut _ _ nez hoe, hce⟩
theorem pyZipT {z TI TO i1 i2 l1 l2 x1 : Addr} {k1 k2 : Nat} {xs ys : Array Value} {a b : Value} {Q : Option Value → Shared → Prop} (hot : HotAt A x1 s.heap) (nz : x1 ≠ z) (nO : x1 ≠ TO) (n1 : x1 ≠ i1) (n2 : x1 ≠ i2) (D : ZipApart z TI TO i1 i2 l1 l2)
    (hz : IsZip s.heap z TI TO .none) (hI : IsPair s.heap TI (.ref i1) (.ref i2)) (hO : IsPair s.heap TO a b) (g1 : s.heap.IsTupleIter i1 l1 k1) (g2 : s.heap.IsTupleIter i2 l2 k2) (e1 : s.heap.IsTuple l1 xs) (e2 : s.heap.IsTuple l2 ys) (fin : xs[k1]? = none ∨ ys[k2]? = none)
    (q : ∀ h2, (∀ c o, c ≠ z → c ≠ TO → c ≠ i1 → c ≠ i2 → s.heap.get? c = some o → h2.get? c = some o) → Q none { s with heap := h2 }) : wpAny (model prog w) A (pyNext (.ref z)) Q E s := by
  have hT : s.TypeIs (.ref z) "zip" := ⟨_, hz, rfl⟩
  unfold pyNext
  refine wpAny_bind (wpAny_attempt (wpAny_callSpecial?_slot (name := Str.ofString "__next__") hT F.slot_zip_next
    (wpAny_call_entry F.slot_zip_next hT F.entry_zip_next (zipEndT (A := A.in1) hot nz nO n1 n2 D hz hI hO g1 g2 e1 e2 fin fun h2 e hk he => ?_) (F.args_zip_next_1 _))))
  obtain ⟨o, ho, hc⟩ := he
  refine wpAny_bind (wpAny_isInstance (T := "StopIteration") (b := true) ⟨o, ho, hc⟩ isSubtype_stop ?_)
  exact wpAny_pure (q _ hk)
end
end K20H
end PySem
namespace K20
open PySem PySem.Spec PyProof.Rows L2 L2H
def ItHL (K : Fr) (a b : Addr) : It := Itz K a b
theorem turnHL {P : Program} {w : World} {K : Fr} {elts : List Expr} {kk : Nat} {tpos : Pos} {a b z TI TO i1 i2 : Addr} (D : ZipApart z TI TO i1 i2 a b) :
    L2H.TurnH P w K (.Tuple elts kk tpos) (ItHL K a b) [z, TI, TO, i1, i2] z (fun i h => IsZip h z TI TO .none ∧ IsPair h TI (.ref i1) (.ref i2) ∧ (∃ x y, IsPair h TO x y) ∧ h.IsListIter i1 a i ∧ h.IsListIter i2 b i) where
  mem := by simp
  obj := fun i h st c hc => by
    obtain ⟨hz, hI, ⟨x, y, hO⟩, ⟨o1, e1, _, d1⟩, ⟨o2, e2, _, d2⟩⟩ := st
    have ec : c = z ∨ c = TI ∨ c = TO ∨ c = i1 ∨ c = i2 := by simpa using hc
    rcases ec with q | q | q | q | q
    · rw [q]; exact ⟨_, hz, fun v q => nomatch q⟩
    · rw [q]; exact ⟨_, hI, fun v q => nomatch q⟩
    · rw [q]; exact ⟨_, hO, fun v q => nomatch q⟩
    · rw [q]; exact ⟨o1, e1, fun v q => by rw [d1] at q; cases q⟩
    · rw [q]; exact ⟨o2, e2, fun v q => by rw [d2] at q; cases q⟩
  keep := fun i h h' st k => by
    obtain ⟨hz, hI, ⟨x, y, hO⟩, g1, g2⟩ := st
    exact ⟨k z (by simp) _ hz, k TI (by simp) _ hI, ⟨x, y, k TO (by simp) _ hO⟩, g1.at fun o q => k i1 (by simp) o q, g2.at fun o q => k i2 (by simp) o q⟩
  item := by
    intro X hP hw hK hc i pins s σ H E I hf st hg
    subst hP hw hK
    obtain ⟨hz, hI, ⟨x0, y0, hO⟩, g1, g2⟩ := st
    obtain ⟨xs, ys, x, y, hqx, hqy, hx, hy⟩ := hg
    obtain ⟨its, rv, p1, _⟩ := I.list hqx
    obtain ⟨its2, rv2, p2, _⟩ := I.list hqy
    obtain ⟨u, hu, ru⟩ := rv.get hx
    obtain ⟨u2, hu2, ru2⟩ := rv2.get hy
    have lz : z < s.heap.objs.size := Heap.lt_size hz
    refine wpAny_pyNext_zip_item D hz hI hO g1 g2 (p1.isList) (p2.isList) (x := u) (y := u2) (by simpa using hu) (by simpa using hu2) fun h' z' O' g1' g2' hT hsz hk => ?_
    refine ⟨_, rfl, wpAny_letOwnedTupleGo_zip (s := { s with heap := h' }) z' fun h'' z'' sb => ?_⟩
    have hT2 : h''.get? s.heap.objs.size = some { cls := .type "tuple", data := .seq #[u, u2] } := (sb.2 _ (Nat.ne_of_gt lz)).trans hT
    have new : ObjOk X.prog X.w (upd H s.heap.objs.size (.tup [x, y])) h'' s.heap.objs.size (.tup [x, y]) :=
      ⟨by show 2 ≤ sizeLine; decide, [u, u2], .cons ru (.cons ru2 .nil), ⟨_, hT2, rfl, _, rfl⟩⟩
    have J : Inv X pins σ (upd H s.heap.objs.size (.tup [x, y])) { s with heap := h'' } :=
      I.turnedNew (t' := s.toks) (ch := [z, TI, TO, i1, i2]) (fun c o hb q => (sb.2 c (fun e => hb (by simp [e]))).trans (hk c o (fun e => hb (by simp [e])) (fun e => hb (by simp [e])) (fun e => hb (by simp [e])) (fun e => hb (by simp [e])) q)) hf (Nat.le_refl _) new
    refine ⟨.ref s.heap.objs.size, _, J, rfl, ⟨_, x, y, rfl, I.hok.fresh (Nat.le_refl _), rfl, fun l hl => by rw [I.list_inj hl hqx]; exact hx, fun l hl => by rw [I.list_inj hl hqy]; exact hy⟩, ⟨z'', ?_, ⟨u, u2, ?_⟩, ?_, ?_⟩, fun c hcm => ?_⟩
    · exact (sb.2 _ D.TIz).trans (hk _ _ D.TIz D.TITO D.TIi1 D.TIi2 hI)
    · exact (sb.2 _ D.TOz).trans O'
    · exact g1'.at fun o q => (sb.2 _ D.i1z).trans q
    · exact g2'.at fun o q => (sb.2 _ D.i2z).trans q
    · have lc : c < s.heap.objs.size := by
        have ec : c = z ∨ c = TI ∨ c = TO ∨ c = i1 ∨ c = i2 := by simpa using hcm
        rcases ec with q | q | q | q | q
        · rw [q]; exact lz
        · rw [q]; exact Heap.lt_size hI
        · rw [q]; exact Heap.lt_size hO
        · rw [q]; obtain ⟨_, e1, _⟩ := g1; exact Heap.lt_size e1
        · rw [q]; obtain ⟨_, e2, _⟩ := g2; exact Heap.lt_size e2
      rw [upd_ne (Nat.ne_of_lt lc)]
      exact (hf c hcm).1
  done := by
    intro X hP hw hK hc i pins s σ H E I hf st hg
    subst hP hw hK
    obtain ⟨hz, hI, ⟨x0, y0, hO⟩, g1, g2⟩ := st
    obtain ⟨xs, ys, hqx, hqy, hend⟩ := hg
    obtain ⟨its, rv, p1, _⟩ := I.list hqx
    obtain ⟨its2, rv2, p2, _⟩ := I.list hqy
    obtain ⟨p, hot, hp⟩ := id hc
    have off : ∀ c ∈ [z, TI, TO, i1, i2], p.1 ≠ c := fun c hcm => (hf c hcm).2.2.2.2.2 p (List.mem_append_left _ hp)
    have hotA : HotX.HotAt X.A p.1 s.heap := by
      obtain ⟨hh, v1, e1, c1⟩ := hot
      exact ⟨hh, p.2, v1, (I.pin p (List.mem_append_left _ hp)).1, e1, c1⟩
    have l1 := rv.length
    have l2 := rv2.length
    have he : its.toArray[i]? = none ∨ its2.toArray[i]? = none := by
      rcases hend with q | q
      · exact .inl (by simp; omega)
      · exact .inr (by simp; omega)
    exact PySem.K20H.pyZipL hotA (off z (by simp)) (off TO (by simp)) (off i1 (by simp)) (off i2 (by simp)) D hz hI hO g1 g2 (p1.isList) (p2.isList) he fun h' hk => ⟨rfl, I.turnedL (t' := s.toks) (ch := [z, TI, TO, i1, i2]) (fun c o hb q =>
      hk c o (fun e => hb (by simp [e])) (fun e => hb (by simp [e])) (fun e => hb (by simp [e])) (fun e => hb (by simp [e])) q) hf⟩
  self := fun A i s Q E st h => wpAny_pyIter_zip st.1 h
def ItHT (K : Fr) (a b : Addr) : It := RZ.ItzT K a b
theorem turnHT {P : Program} {w : World} {K : Fr} {elts : List Expr} {kk : Nat} {tpos : Pos} {a b z TI TO i1 i2 : Addr} (D : ZipApart z TI TO i1 i2 a b) :
    L2H.TurnH P w K (.Tuple elts kk tpos) (ItHT K a b) [z, TI, TO, i1, i2] z (fun i h => IsZip h z TI TO .none ∧ IsPair h TI (.ref i1) (.ref i2) ∧ (∃ x y, IsPair h TO x y) ∧ h.IsTupleIter i1 a i ∧ h.IsTupleIter i2 b i) where
  mem := by simp
  obj := fun i h st c hc => by
    obtain ⟨hz, hI, ⟨x, y, hO⟩, ⟨o1, e1, _, d1⟩, ⟨o2, e2, _, d2⟩⟩ := st
    have ec : c = z ∨ c = TI ∨ c = TO ∨ c = i1 ∨ c = i2 := by simpa using hc
    rcases ec with q | q | q | q | q
    · rw [q]; exact ⟨_, hz, fun v q => nomatch q⟩
    · rw [q]; exact ⟨_, hI, fun v q => nomatch q⟩
    · rw [q]; exact ⟨_, hO, fun v q => nomatch q⟩
    · rw [q]; exact ⟨o1, e1, fun v q => by rw [d1] at q; cases q⟩
    · rw [q]; exact ⟨o2, e2, fun v q => by rw [d2] at q; cases q⟩
  keep := fun i h h' st k => by
    obtain ⟨hz, hI, ⟨x, y, hO⟩, g1, g2⟩ := st
    exact ⟨k z (by simp) _ hz, k TI (by simp) _ hI, ⟨x, y, k TO (by simp) _ hO⟩, g1.at fun o q => k i1 (by simp) o q, g2.at fun o q => k i2 (by simp) o q⟩
  item := by
    intro X hP hw hK hc i pins s σ H E I hf st hg
    subst hP hw hK
    obtain ⟨hz, hI, ⟨x0, y0, hO⟩, g1, g2⟩ := st
    obtain ⟨xs, ys, x, y, hqx, hqy, hx, hy⟩ := hg
    obtain ⟨its, rv, p1, _⟩ := I.tuple hqx
    obtain ⟨its2, rv2, p2, _⟩ := I.tuple hqy
    obtain ⟨u, hu, ru⟩ := rv.get hx
    obtain ⟨u2, hu2, ru2⟩ := rv2.get hy
    have lz : z < s.heap.objs.size := Heap.lt_size hz
    refine RZ.pyNext_zipT_item D hz hI hO g1 g2 (p1) (p2) (x := u) (y := u2) (by simpa using hu) (by simpa using hu2) fun h' z' O' g1' g2' hT hsz hk => ?_
    refine ⟨_, rfl, wpAny_letOwnedTupleGo_zip (s := { s with heap := h' }) z' fun h'' z'' sb => ?_⟩
    have hT2 : h''.get? s.heap.objs.size = some { cls := .type "tuple", data := .seq #[u, u2] } := (sb.2 _ (Nat.ne_of_gt lz)).trans hT
    have new : ObjOk X.prog X.w (upd H s.heap.objs.size (.tup [x, y])) h'' s.heap.objs.size (.tup [x, y]) :=
      ⟨by show 2 ≤ sizeLine; decide, [u, u2], .cons ru (.cons ru2 .nil), ⟨_, hT2, rfl, _, rfl⟩⟩
    have J : Inv X pins σ (upd H s.heap.objs.size (.tup [x, y])) { s with heap := h'' } :=
      I.turnedNew (t' := s.toks) (ch := [z, TI, TO, i1, i2]) (fun c o hb q => (sb.2 c (fun e => hb (by simp [e]))).trans (hk c o (fun e => hb (by simp [e])) (fun e => hb (by simp [e])) (fun e => hb (by simp [e])) (fun e => hb (by simp [e])) q)) hf (Nat.le_refl _) new
    refine ⟨.ref s.heap.objs.size, _, J, rfl, ⟨_, x, y, rfl, I.hok.fresh (Nat.le_refl _), rfl, fun l hl => by rw [I.tuple_inj hl hqx]; exact hx, fun l hl => by rw [I.tuple_inj hl hqy]; exact hy⟩, ⟨z'', ?_, ⟨u, u2, ?_⟩, ?_, ?_⟩, fun c hcm => ?_⟩
    · exact (sb.2 _ D.TIz).trans (hk _ _ D.TIz D.TITO D.TIi1 D.TIi2 hI)
    · exact (sb.2 _ D.TOz).trans O'
    · exact g1'.at fun o q => (sb.2 _ D.i1z).trans q
    · exact g2'.at fun o q => (sb.2 _ D.i2z).trans q
    · have lc : c < s.heap.objs.size := by
        have ec : c = z ∨ c = TI ∨ c = TO ∨ c = i1 ∨ c = i2 := by simpa using hcm
        rcases ec with q | q | q | q | q
        · rw [q]; exact lz
        · rw [q]; exact Heap.lt_size hI
        · rw [q]; exact Heap.lt_size hO
        · rw [q]; obtain ⟨_, e1, _⟩ := g1; exact Heap.lt_size e1
        · rw [q]; obtain ⟨_, e2, _⟩ := g2; exact Heap.lt_size e2
      rw [upd_ne (Nat.ne_of_lt lc)]
      exact (hf c hcm).1
  done := by
    intro X hP hw hK hc i pins s σ H E I hf st hg
    subst hP hw hK
    obtain ⟨hz, hI, ⟨x0, y0, hO⟩, g1, g2⟩ := st
    obtain ⟨xs, ys, hqx, hqy, hend⟩ := hg
    obtain ⟨its, rv, p1, _⟩ := I.tuple hqx
    obtain ⟨its2, rv2, p2, _⟩ := I.tuple hqy
    obtain ⟨p, hot, hp⟩ := id hc
    have off : ∀ c ∈ [z, TI, TO, i1, i2], p.1 ≠ c := fun c hcm => (hf c hcm).2.2.2.2.2 p (List.mem_append_left _ hp)
    have hotA : HotX.HotAt X.A p.1 s.heap := by
      obtain ⟨hh, v1, e1, c1⟩ := hot
      exact ⟨hh, p.2, v1, (I.pin p (List.mem_append_left _ hp)).1, e1, c1⟩
    have l1 := rv.length
    have l2 := rv2.length
    have he : its.toArray[i]? = none ∨ its2.toArray[i]? = none := by
      rcases hend with q | q
      · exact .inl (by simp; omega)
      · exact .inr (by simp; omega)
    exact PySem.K20H.pyZipT hotA (off z (by simp)) (off TO (by simp)) (off i1 (by simp)) (off i2 (by simp)) D hz hI hO g1 g2 (p1) (p2) he fun h' hk => ⟨rfl, I.turnedL (t' := s.toks) (ch := [z, TI, TO, i1, i2]) (fun c o hb q =>
      hk c o (fun e => hb (by simp [e])) (fun e => hb (by simp [e])) (fun e => hb (by simp [e])) (fun e => hb (by simp [e])) q) hf⟩
  self := fun A i s Q E st h => wpAny_pyIter_zip st.1 h
/-- zip of two lists or of two tuples, there -/
theorem pi_zipH {X : Cx} {K : Fr} {e e2 : Expr} {ta : TA} {p pos tpos : Pos} {elts : List Expr} {kk : Nat} (hK : X.K = K) (hg : Gl X "zip") (hm : X.mg "zip" = none) (ha : PA X [e, e2] ta)
    (hs : starEach [e, e2] X.env = (false, eval e X.env) :: starEach [e2] X.env := by rfl) (hpl : (backTo pos (starEach [e2] X.env)).any (·.1) = false := by rfl) :
    PIH X (.Tuple elts kk tpos) (.Call (.Name "zip" p) [e, e2] [] pos) (RZ.iZipA K ta) := by
  subst hK
  refine ⟨fun pins s σ H R I h => ?_⟩
  refine Call_ (ld_blt I hg hm PyProof.Rows.boot_zip (PyProof.Rows.callWith_type1 (thn (ha.run pos pins s σ H _ I h) fun us s1 ⟨vs, H1, I1, r1, q1⟩ => ?_) hs hpl))
  obtain ⟨a, b, xs, ys, ex, q1⟩ := q1
  subst ex
  cases r1 with
  | cons r rr =>
    cases rr with
    | cons r' rr =>
      cases rr
      cases r
      cases r'
      have fresh5 : ∀ c, c ∈ [s1.heap.objs.size + 4, s1.heap.objs.size + 2, s1.heap.objs.size + 3, s1.heap.objs.size, s1.heap.objs.size + 1] → FpOk X pins H1 c := fun c hcm => by
        have ec : c = s1.heap.objs.size + 4 ∨ c = s1.heap.objs.size + 2 ∨ c = s1.heap.objs.size + 3 ∨ c = s1.heap.objs.size ∨ c = s1.heap.objs.size + 1 := by simpa using hcm
        have hle : s1.heap.objs.size ≤ c := by
          rcases ec with z | z | z | z | z <;> rw [z] <;> first | exact Nat.le_add_right _ _ | exact Nat.le_refl _
        exact I1.fpOk hle (I1.hok.fresh hle)
      rcases q1 with ⟨hqx, hqy, q⟩ | ⟨hqx, hqy, q⟩
      · obtain ⟨its, rv, p1, _⟩ := I1.list hqx
        obtain ⟨its2, rv2, p2, _⟩ := I1.list hqy
        refine call_zip_2 p1.isList p2.isList fun h' hz hTI hTO h1 h2 hsz hk => wpAny_pyIter_zip hz ?_
        have I2 : Inv X pins σ H1 { s1 with heap := h' } := I1.kept (t' := s1.toks) hk
        exact ⟨s1.heap.objs.size + 4, [s1.heap.objs.size + 4, s1.heap.objs.size + 2, s1.heap.objs.size + 3, s1.heap.objs.size, s1.heap.objs.size + 1], _, _, H1, rfl, I2, turnHL (PySem.W.ktu_apart s1.heap.objs.size a b p1.lt p2.lt), ⟨hz, hTI, ⟨_, _, hTO⟩, h1, h2⟩, fresh5, q⟩
      · obtain ⟨its, rv, p1, _⟩ := I1.tuple hqx
        obtain ⟨its2, rv2, p2, _⟩ := I1.tuple hqy
        obtain ⟨o1, ho1, _⟩ := id p1
        obtain ⟨o2, ho2, _⟩ := id p2
        refine RZ.call_zipT (show s1.heap.IsTuple a its.toArray from p1) (show s1.heap.IsTuple b its2.toArray from p2) fun h' hz hTI hTO h1 h2 hsz hk => wpAny_pyIter_zip hz ?_
        have I2 : Inv X pins σ H1 { s1 with heap := h' } := I1.kept (t' := s1.toks) hk
        exact ⟨s1.heap.objs.size + 4, [s1.heap.objs.size + 4, s1.heap.objs.size + 2, s1.heap.objs.size + 3, s1.heap.objs.size, s1.heap.objs.size + 1], _, _, H1, rfl, I2, turnHT (PySem.W.ktu_apart s1.heap.objs.size a b (Heap.lt_size ho1) (Heap.lt_size ho2)), ⟨hz, hTI, ⟨_, _, hTO⟩, h1, h2⟩, fresh5, q⟩
/-- a tuple unpacked, there -/
theorem pg_tupH {X : Cx} {K : Fr} {es : List Expr} {k : Nat} {pos : Pos} {t : TGs} {n : Nat} (hK : X.K = K) (hc : HotC X) (h : PGs X es t) (hn : (assignEach es X.env).length = n := by rfl) (hst : (assignEach es X.env).findIdx? (·.1) = none := by rfl) : PG X (.Tuple es k pos) (gTup K n t) := by
  subst hK
  refine ⟨fun pins s σ H v u Q I r hw => ?_⟩
  obtain ⟨a, xs, e1, hq, hl, hw⟩ := hw
  subst e1
  cases r
  obtain ⟨its, rv, ht, hz⟩ := I.tuple hq
  obtain ⟨x1, hot⟩ := hc.at I
  rw [PyProof.Rows.assign_Tuple]
  refine wpAny_bind (wpAny_standAt (PySem.K20H.unpackT hot ht (by simp [hn, ← hl, rv.length]) hst fun h2 k2 => ?_))
  have J : Inv X pins σ H { s with heap := h2 } := I.kept (t' := s.toks) fun b o e => k2 b o (Nat.ne_of_lt (Heap.lt_size e)) e
  exact h.run pins _ σ H xs _ Q J (by simpa using rv) hw
/-- all(..) of a list of bools, there -/
theorem cr_allH {X : Cx} {K : Fr} (hK : X.K = K) (hc : HotC X) : CallR X (.builtin "all") (rAll K) := by
  subst hK
  intro pins s σ H vs us Q I r h
  obtain ⟨a, bs, rfl, hs, q⟩ := h
  obtain ⟨its, rv, hl, _⟩ := I.list hs
  rw [Vals.ref1 r]
  have hb := rv.bls
  obtain ⟨p, ⟨hh, v1, d1, c1⟩, hp⟩ := id hc
  have pin := (I.pin p (List.mem_append_left _ hp)).1
  refine call_all_walk (iter_any hl.isList fun s2 e2 st hne => ?_)
  subst e2
  refine ⟨_, _, _, _, _, _, _, rfl, PySem.K20H.walksL (A := X.A.in1) hh d1 c1 (Nat.ne_of_lt (Heap.lt_size pin)) hne its.toArray, ⟨st.1, st.2, Heap.get?_push_of_some _ pin⟩, truth_bools hb, fun h' tk hk => ?_⟩
  refine ⟨.bl _, H, I.kept fun b o eo => hk b o (fun hmem => ?_) (Heap.get?_push_of_some _ eo), ?_, q⟩
  · rcases List.mem_cons.mp hmem with e1 | hmem
    · exact absurd (e1 ▸ Heap.lt_size eo) (Nat.lt_irrefl _)
    · cases hmem
  · show Value.bool _ = Value.bool _
    rw [← L2.all_range, hb, List.size_toArray, List.length_map]
end K20

set_option Elab.async false
set_option linter.all false
set_option maxRecDepth 100000
set_option maxHeartbeats 4000000
/-! K20: a list comprehension while an exception is handled: its block keeps the pinned exception. -/
namespace K20
open PySem PySem.Spec PyProof.Rows L2 L2H
/-- the block of a comprehension, with the pins of the context around it -/
abbrev bh (X : Cx) (s : Shared) (H : Hp) (scope : Scope) (cenv : Env) (fp : List Addr) : Cx := (X.blk s H scope cenv fp).tr X.pn (fun _ _ => False)
theorem Inv.addp {Y : Cx} {σ : L2.St} {H : Hp} {s : Shared} (I : Inv Y [] σ H s) {pn : List (Addr × Obj)} {xe : Value → Shared → Prop} (hp : ∀ p ∈ pn, s.heap.get? p.1 = some p.2 ∧ H p.1 = none ∧ p.1 ≠ Y.env.locals ∧ p.1 ∉ Y.fs ∧ ∀ v, p.2.data ≠ .cell v) : Inv (Y.tr pn xe) [] σ H s :=
  ⟨I.ok.toTry _ _, I.os, I.bare, I.base, I.loc, I.cell, I.free, I.freeC, fun p q => hp p (by rw [List.append_nil] at q; exact q), I.hok, I.len⟩
theorem hotC_bh {X : Cx} {s : Shared} {H : Hp} {scope : Scope} {cenv : Env} {fp : List Addr} (c : HotC X) : HotC (bh X s H scope cenv fp) := c
section
variable {X : Cx}
theorem lc_coreH {pins : List (Addr × Obj)} {s : Shared} {σ : L2.St} {H : Hp} {Q : VK} {elt tg iter : Expr} {ifs : List Expr} {scope : Scope} {own : List (Str × Nat)} {pos pos' : Pos} {wi : TI} {g : TG} {tt : TT} {te : TE} {use : Option (Value → Sem Unit)} {Qf : Value → Shared → Prop}
    (hc : HotC X) (hN : X.N.Nodup) (I : Inv X pins σ H s) (hi : PIH X tg iter wi) (ok : BlkOk X.N X.env.scope scope own)
    (hg : ∀ (s : Shared) (H : Hp) (C : Addr) (cl : List (Str × Addr)) (fp : List Addr), PG (bh X s H scope (compEnvC scope cl C X.env) fp) tg g) (ht : ∀ (s : Shared) (H : Hp) (C : Addr) (cl : List (Str × Addr)) (fp : List Addr), PTs (bh X s H scope (compEnvC scope cl C X.env) fp) ifs tt)
    (he : ∀ (s : Shared) (H : Hp) (C : Addr) (cl : List (Str × Addr)) (fp : List Addr), PE (bh X s H scope (compEnvC scope cl C X.env) fp) elt te) (hs : ∀ x, foldedSetIterable iter X.env x = pure x)
    (h : tLc wi g tt te (own.map (·.2)) σ H Q)
    (hRR : ∀ D C s' m H', Inv X pins σ H' s' → Q (.ref D) H' → s'.heap.Ns C m → FpOk X pins H' C → compPost (model X.prog X.w) X.A X.xe use Qf (.ref D) C (.ok .next) s') :
    wpAny (model X.prog X.w) X.A (comprehension (.ListComp elt [⟨tg, iter, ifs, 0⟩] scope pos) scope X.env pos' (newList []) false (eval iter X.env) use) Qf X.xe s := by
  have hfree : ∀ y ∈ scope.names, y.2 = .free → ∃ c, X.env.cells.lookup y.1 = some c := fun y hy e => (ok.free y hy e).elim (fun k => I.ok.has _ (.inl k)) fun k => I.ok.has _ (.inr k)
  refine wpAny_comprehension_free (use := use) rfl hs (closure_ok hfree) ok.kind (fun y hy e => by rw [ok.uniq y hy, e])
    (thn (hi.run pins s σ H _ I h) fun xv s1 hx => thn hx fun itv s2 h2 => ?_)
  obtain ⟨it, fp, tn, J, H2, e, I2, T, st2, f2, q⟩ := h2
  subst e
  refine wpAny_newObj_type (newEnv_comp ?_) (by show 0 ≤ sizeLine; decide)
  generalize hD : s2.heap.objs.size = D
  have hDn : H2 D = none := I2.hok.fresh (Nat.le_of_eq hD)
  obtain ⟨W, ⟨m0, w0⟩, turn⟩ := q D hDn
  generalize hs3 : ({ s2 with heap := s2.heap.push { cls := .type "list", data := .seq ([] : List Value).toArray } } : Shared) = s3
  have I3 : Inv X pins σ (upd H2 D (.lst [])) s3 := by
    rw [← hs3]
    refine I2.laid (t' := s2.toks) (fun b o e => Heap.get?_push_of_some _ e) (Nat.le_of_eq hD) ⟨Nat.zero_le _, [], 0, .nil, ?_⟩
    rw [← hD]
    exact Heap.get?_push_size _ rfl
  have h3 : s3.heap = s2.heap.push { cls := .type "list", data := .seq ([] : List Value).toArray } := by rw [← hs3]
  have sz : ∀ b ∈ fp, b < s2.heap.objs.size := fun b hb => let ⟨o, e, _⟩ := T.obj _ _ st2 b hb; Heap.lt_size e
  have f3 : ∀ b ∈ fp, FpOk X pins (upd H2 D (.lst [])) b ∧ b < s3.heap.objs.size := fun b hb => by
    have hlt := sz b hb
    refine ⟨⟨?_, (f2 b hb).2⟩, by rw [h3, Heap.size_push]; exact Nat.lt_succ_of_lt hlt⟩
    rw [upd_ne (by rw [← hD]; exact Nat.ne_of_lt hlt)]
    exact (f2 b hb).1
  have st3 : tn 0 s3.heap := T.keep _ _ _ st2 fun b _ o e => by rw [h3]; exact Heap.get?_push_of_some _ e
  have I4 := block_start I3 ok hN f3
  have pg := hg s3 (upd H2 D (.lst [])) s3.heap.objs.size (cellsFrom (s3.heap.objs.size + 1) scope.names (cloFrom X.env.cells scope.names [])) fp
  have pt := ht s3 (upd H2 D (.lst [])) s3.heap.objs.size (cellsFrom (s3.heap.objs.size + 1) scope.names (cloFrom X.env.cells scope.names [])) fp
  have pe := he s3 (upd H2 D (.lst [])) s3.heap.objs.size (cellsFrom (s3.heap.objs.size + 1) scope.names (cloFrom X.env.cells scope.names [])) fp
  show codeAny _ _ (.compStart (.ListComp elt [⟨tg, iter, ifs, 0⟩] scope pos) 0 (.ref it) (.ref D) (compEnvC scope (cellsFrom (s3.heap.objs.size + 1) scope.names (cloFrom X.env.cells scope.names [])) s3.heap.objs.size X.env)) (compPost (model X.prog X.w) X.A X.xe use Qf (.ref D) s3.heap.objs.size) { s3 with heap := pushCells (s3.heap.push { cls := .type "dict", data := .dict #[] }) scope.names }
  have nfp : ∀ b ∈ fp, (upd H2 D (.lst [])) b = none := fun b hb => (f3 b hb).1.1
  generalize hce : compEnvC scope (cellsFrom (s3.heap.objs.size + 1) scope.names (cloFrom X.env.cells scope.names [])) s3.heap.objs.size X.env = ce at I4 pg pt pe ⊢
  have cL : ce.locals = s3.heap.objs.size := by subst hce; rfl
  generalize hH3 : upd H2 D (.lst []) = H3 at I3 I4 pg pt pe w0 nfp f3
  generalize hs4 : ({ s3 with heap := pushCells (s3.heap.push { cls := .type "dict", data := .dict #[] }) scope.names } : Shared) = s4 at I4 ⊢
  have up34 : ∀ b o, s3.heap.get? b = some o → s4.heap.get? b = some o := fun b o e => by rw [← hs4]; exact pushCells_keeps _ _ _ _ (Heap.get?_push_of_some _ e)
  have st4 : tn 0 s4.heap := T.keep _ _ _ st3 fun b _ o e => up34 b o e
  have I4 : Inv (bh X s3 H3 scope ce fp) [] (wipe σ (own.map (·.2))) H3 s4 := Inv.addp I4 fun p hp => by
    obtain ⟨a1, a2, a3, a4, a5⟩ := I3.pin p (List.mem_append_left _ hp)
    refine ⟨up34 _ _ a1, a2, ?_, fun hm => (List.mem_cons.mp (I3.stkSub p.1 hm)).elim a3 a4, a5⟩
    show p.1 ≠ ce.locals
    rw [cL]
    exact Nat.ne_of_lt (Heap.lt_size a1)
  have hcb : HotC (bh X s3 H3 scope ce fp) := hc
  have stat : ∀ {σ' : L2.St} {H' : Hp} {s' : Shared}, Inv (bh X s3 H3 scope ce fp) [] σ' H' s' → (∀ b ∈ fp, H' b = none) → ∀ b ∈ fp, FpOk (bh X s3 H3 scope ce fp) [] H' b := fun {σ' H' s'} I' hn b hb =>
    ⟨hn b hb, (I'.ok.exf b hb).1, I'.ok.exfs b hb, .inl hb, fun x c e => (I'.ok.exf b hb).2 x c e, fun p hp => (f3 b hb).1.2.2.2.2.2 p (List.mem_append_left _ (by rw [List.append_nil] at hp; exact hp))⟩
  have loop : codeAny (model X.prog X.w) X.A (.compLoop (.ListComp elt [⟨tg, iter, ifs, 0⟩] scope pos) 0 (.ref it) (.ref D) ce) (compPost (model X.prog X.w) X.A X.xe use Qf (.ref D) s3.heap.objs.size) s4 := by
    refine compLoop_any (fun n s' => ∃ i H', Inv (bh X s3 H3 scope ce fp) [] (wipe σ (own.map (·.2))) H' s' ∧ tn i s'.heap ∧ (∀ b ∈ fp, H' b = none) ∧ W i n H') ?_ m0 ⟨0, H3, I4, st4, nfp, w0⟩
    rintro n s5 ⟨i, H5, I5, st5, n5, w5⟩
    rcases turn i n H5 w5 with ⟨stop, qq⟩ | ⟨go, Nx, hNx, step⟩
    · have td := T.done (bh X s3 H3 scope ce fp) rfl rfl rfl hcb i [] s5 _ H5 (fun _ _ => False) I5 (stat I5 n5) st5 stop
      refine thnF td fun r s6 ⟨hr, I6⟩ => ?_
      subst hr
      have I7 : Inv X pins σ H5 s6 := I3.call' (ch := fp) I6.os I6.base I6.hok I6.bare fun b hb => ⟨(f3 b hb).1.2.2.2.1, (f3 b hb).1.2.1, (f3 b hb).1.2.2.2.2.1, (f3 b hb).1.2.2.2.2.2⟩
      have nC : H5 s3.heap.objs.size = none := by
        have z : H5 ce.locals = none := I6.free
        rw [cL] at z
        exact z
      obtain ⟨m, hn, _⟩ := I6.loc
      have hn : s6.heap.Ns ce.locals m := hn
      rw [cL] at hn
      exact hRR D s3.heap.objs.size s6 m H5 I7 qq hn (I3.fpOk (Nat.le_refl _) nC)
    · have ti := T.item (bh X s3 H3 scope ce fp) rfl rfl rfl hcb i [] s5 _ H5 (fun _ _ => False) I5 (stat I5 n5) st5 go
      refine thnF ti fun r s6 ⟨u, hr, h6⟩ => ?_
      subst hr
      refine thnF h6 fun _ s7 ⟨x, H7, I7, r7, y7, st7, n7⟩ => ?_
      have I7' := I7.pinned (stat I7 n7) (T.obj _ _ st7)
      refine thnF (pg.run _ s7 _ H7 x u _ I7' r7 (step x H7 y7)) fun _ s8 ⟨σ8, H8, I8, hw8, q8⟩ => ?_
      refine thnF (pt.run _ s8 σ8 H8 _ I8 q8) fun b s9 ⟨H9, I9, q9⟩ => ?_
      have fin : ∀ {s' : Shared} {H' : Hp}, Inv (bh X s3 H3 scope ce fp) ([] ++ pinsAt fp s7.heap) σ8 H' s' → Nx H' → ∃ m, m < n ∧ ∃ i H', Inv (bh X s3 H3 scope ce fp) [] (wipe σ (own.map (·.2))) H' s' ∧ tn i s'.heap ∧ (∀ b ∈ fp, H' b = none) ∧ W i m H' := fun {s' H'} I' nx => by
        obtain ⟨m', hm, w'⟩ := hNx H' nx
        have pin' : ∀ b ∈ fp, ∀ o, s7.heap.get? b = some o → s'.heap.get? b = some o ∧ H' b = none := fun b hb o e =>
          let z := I'.pin (b, o) (List.mem_append_right _ (List.mem_append_right _ (mem_pinsAt hb e)))
          ⟨z.1, z.2.1⟩
        have hl : (wipe σ (own.map (·.2))).length = σ8.length := by rw [← hw8, wipe_length]
        refine ⟨m', hm, i + 1, H', (I'.unpinned (pins := [])).weak hl (fun j v e => ?_), T.keep _ _ _ st7 fun b hb o e => (pin' b hb o e).1, fun b hb => ?_, w'⟩
        · rw [← hw8] at e
          exact (wipe_some e).1
        · obtain ⟨o, e, _⟩ := T.obj _ _ st7 b hb
          exact (pin' b hb o e).2
      cases b with
      | false =>
        simp only [Bool.false_eq_true, if_false] at q9 ⊢
        exact fin I9 q9
      | true =>
        simp only [if_true] at q9 ⊢
        refine thnF (pe.run _ s9 σ8 H9 _ I9 q9) fun z s10 ⟨yv, H10, I10, r10, acc, hD10, hz10, nx⟩ => ?_
        exact app_ok (X := bh X s3 H3 scope ce fp) I10 hD10 hz10 r10 fun s11 I11 => fin I11 nx
  exact codeAny_compStart_list loop (T.self X.A 0 _ _ _ st4 loop)
theorem pe_lcH {elt tg iter : Expr} {ifs : List Expr} {scope : Scope} {own : List (Str × Nat)} {pos : Pos} {wi : TI} {g : TG} {tt : TT} {te : TE} (hc : HotC X) (hN : X.N.Nodup) (hi : PIH X tg iter wi) (ok : BlkOk X.N X.env.scope scope own)
    (hg : ∀ (s : Shared) (H : Hp) (C : Addr) (cl : List (Str × Addr)) (fp : List Addr), PG (bh X s H scope (compEnvC scope cl C X.env) fp) tg g) (ht : ∀ (s : Shared) (H : Hp) (C : Addr) (cl : List (Str × Addr)) (fp : List Addr), PTs (bh X s H scope (compEnvC scope cl C X.env) fp) ifs tt)
    (he : ∀ (s : Shared) (H : Hp) (C : Addr) (cl : List (Str × Addr)) (fp : List Addr), PE (bh X s H scope (compEnvC scope cl C X.env) fp) elt te) (hs : ∀ x, foldedSetIterable iter X.env x = pure x := by intro _; rfl) :
    PE X (.ListComp elt [⟨tg, iter, ifs, 0⟩] scope pos) (tLc wi g tt te (own.map (·.2))) := by
  refine ⟨fun pins s σ H Q I h => ?_⟩
  rw [eval_ListComp]
  refine lc_coreH hc hN I hi ok hg ht he hs h fun D C s' m H' I' q hn f => ⟨m, hn, fun h'' sb => ?_⟩
  obtain ⟨f0, f1, f2, f3, f4, f5⟩ := f
  exact ⟨.ref D, H', I'.turned (t' := s'.toks) (fun b o hb e => (sb.2 b hb).trans e) f0 f1 f3 f4 f5, rfl, q⟩
end
end K20

set_option Elab.async false
set_option linter.all false
set_option maxRecDepth 100000
set_option maxHeartbeats 4000000
namespace K20
open PySem PySem.Spec PyProof.Rows L2
local macro_rules | `(tactic| walk_at "q1") => `(tactic| first
  | with_reducible refine r_seq ?_ | with_reducible refine r_asg ?_ | with_reducible refine r_name ?_ | with_reducible refine r_ret ?_ | with_reducible refine r_ifS ?_ | with_reducible refine r_next ?_ | with_reducible refine r_drop ?_
  | ((with_reducible show tVar _ _ _ _); refine ⟨_, rfl, ?_⟩) | with_reducible refine r_c ?_ | with_reducible refine r_op ?_ | with_reducible refine r_un ?_ | with_reducible refine r_I0 ?_ | with_reducible refine r_U ?_
  | with_reducible refine r_eqI ?_ | with_reducible refine r_neI ?_ | with_reducible refine r_neB ?_ | with_reducible refine r_cb ?_ | with_reducible refine r_cons ?_ | with_reducible refine r_nil ?_ | with_reducible refine r_test ?_ | with_reducible refine r_tB ?_
  | with_reducible refine r_bl ?_ | with_reducible refine r_not ?_ | with_reducible refine r_notV ?_ | with_reducible refine r_and ?_ | with_reducible refine r_or ?_ | with_reducible refine r_andV ?_ | with_reducible refine r_orV ?_ | with_reducible refine r_if ?_
  | with_reducible refine r_T ?_ | with_reducible refine r_F ?_ | with_reducible refine r_NT ?_ | with_reducible refine r_NF ?_ | with_reducible refine r_call ?_ | with_reducible refine r_meth ?_ | with_reducible refine r_int1 ?_ | with_reducible refine r_fld ?_
  | with_reducible refine r_tup ?_ | with_reducible refine r_lst ?_ | with_reducible refine r_par ?_ | with_reducible refine r_par3 ?_ | with_reducible refine r_two ?_ | with_reducible refine r_three ?_ | with_reducible refine r_abs ?_ | with_reducible refine r_max ?_
  | with_reducible refine r_cut ?_ | with_reducible refine r_callS ?_ | with_reducible refine r_zipA ?_ | with_reducible refine r_isN ?_ | with_reducible refine r_lc ?_ | with_reducible refine r_lc2 ?_ | with_reducible refine r_mkB ?_ | with_reducible refine r_for ?_ | with_reducible refine r_iList ?_ | with_reducible refine r_iTup ?_ | with_reducible refine r_revL ?_ | with_reducible refine r_star ?_ | with_reducible refine r_bits ?_ | with_reducible refine r_iRng ?_ | with_reducible refine r_iEnum ?_ | with_reducible refine r_iZip ?_ | with_reducible refine r_sub ?_ | with_reducible refine r_sfld ?_ | with_reducible refine r_bm ?_
  | with_reducible refine r_methK ?_ | with_reducible refine r_methS ?_ | with_reducible refine r_make ?_ | with_reducible refine r_mod ?_ | with_reducible refine r_gtup ?_ | with_reducible refine r_gcons ?_ | with_reducible refine r_gnil ?_ | with_reducible refine r_slc ?_ | with_reducible refine r_part ?_ | with_reducible refine r_noPart ?_)
local macro_rules | `(tactic| walk_at "nw") => `(tactic| (intro p hp; generalize hu : upd _ p _ = H1; obtain ⟨s1, hp1⟩ := nwx hp hu; clear hu))
local macro_rules | `(tactic| walk_at "q") => `(tactic| repeat walk_at "q1")
section
variable {P : Program} {w : World} {K : Fr} {mg : Str → Option Value} {base : Heap}
/-! ### _law_like -/
theorem call_or {X : Cx} {f : Value} {r1 r2 : List V → Hp → VK → Prop} (h1 : CallR X f r1) (h2 : CallR X f r2) : CallR X f (fun xs H Q => r1 xs H Q ∨ r2 xs H Q) := fun pins s σ H xs us Q I r h => h.elim (h1 pins s σ H xs us Q I r) (h2 pins s σ H xs us Q I r)
theorem r_callS {sp : Sp} {E : L2.St → XK} {t : TA} {σ : L2.St} {H : Hp} {Q : VK} (h : t σ H fun vs H1 => sp vs H1 Q (E σ)) : tCallS sp E t σ H Q := h
theorem r_zipA {ta : TA} {σ : L2.St} {H : Hp} {R : It → Hp → Prop} (h : ta σ H fun vs H1 => ∃ a b xs ys, vs = [.ref a, .ref b] ∧ ((SqL K H1 a xs ∧ SqL K H1 b ys ∧ R (Itz K a b) H1) ∨ (SqT K H1 a xs ∧ SqT K H1 b ys ∧ R (RZ.ItzT K a b) H1))) : RZ.iZipA K ta σ H R := h
theorem r_isN {x : V} {H : Hp} {Q : VK} (h : Q (.bl (decide (x = .non))) H) : V.non = .non ∧ Q (.bl (decide (x = .non))) H := ⟨rfl, h⟩
theorem walk_zipT {a b : Addr} {xs ys : List V} {n : Nat} (hn : n = min xs.length ys.length) : Walk (RZ.ItzT K a b) n (fun H => SqT K H a xs ∧ SqT K H b ys) (YPair (fun i => xs[i]?) (fun i => ys[i]?)) := by
  subst hn
  refine ⟨fun i _ hi q => ?_, fun _ q => ⟨xs, ys, q.1, q.2, by omega⟩, fun i H v H' _ q y => ?_⟩
  · have h1 : i < xs.length := by omega
    have h2 : i < ys.length := by omega
    exact ⟨xs, ys, xs[i], ys[i], q.1, q.2, by simp [h1], by simp [h2]⟩
  · obtain ⟨T, x, z, h1, h2, h3, h4, h5⟩ := y
    exact ⟨T, x, z, h1, h2, h3, h4 xs q.1, h5 ys q.2⟩
theorem zip_any {ta : Addr} {tb : Addr} {kd : Bool} {xs ys : List V} {H : Hp} {R : It → Hp → Prop} (h1 : H ta = some (sq kd xs)) (h2 : H tb = some (sq kd ys)) (h : ∀ J, Walk J (min xs.length ys.length) (fun H' => H' ta = some (sq kd xs) ∧ H' tb = some (sq kd ys)) (YPair (fun i => xs[i]?) (fun i => ys[i]?)) → R J H) :
    (SqL K H ta xs ∧ SqL K H tb ys ∧ R (Itz K ta tb) H) ∨ (SqT K H ta xs ∧ SqT K H tb ys ∧ R (RZ.ItzT K ta tb) H) := by
  cases kd with
  | true => exact .inl ⟨SqL.of h1, SqL.of h2, h _ ((walk_zip rfl).mono (fun _ q => ⟨SqL.of q.1, SqL.of q.2⟩) fun _ _ _ _ _ _ y => y)⟩
  | false => exact .inr ⟨SqT.of h1, SqT.of h2, h _ ((walk_zipT rfl).mono (fun _ q => ⟨SqT.of q.1, SqT.of q.2⟩) fun _ _ _ _ _ _ y => y)⟩
theorem r_isT3 {x : V} {a : String} {r r1 r2 r3 : Bool} {p : Addr} {H : Hp} {Q : VK} (hp : H p = some (.tup [.ty "list", .ty "tuple", .ty "dict"])) (h1 : kitB a "list" = some r1) (h2 : kitB a "tuple" = some r2) (h3 : kitB a "dict" = some r3) (hr : (r1 || (r2 || r3)) = r) (ty : TyX K H x (.type a)) (h : Q (.bl r) H) : rIsiT K [x, .ref p] H Q := by
  refine ⟨x, p, _, .type a, [.type "list", .type "tuple", .type "dict"], r, rfl, hp, .cons (.ty _) (.cons (.ty _) (.cons (.ty _) .nil)), ty, ?_, h⟩
  refine kitAny_cons (kit_ty h1) (fun e => ?_) (fun e => by rw [← hr, e]; rfl)
  refine kitAny_cons (kit_ty h2) (fun e2 => ?_) (fun e2 => by rw [← hr, e, e2]; rfl)
  refine kitAny_cons (kit_ty h3) (fun e3 => ?_) (fun e3 => by rw [← hr, e, e2, e3]; rfl)
  show some false = some r
  rw [← hr, e, e2, e3]; rfl
end
end K20

set_option Elab.async false
set_option linter.all false
set_option maxRecDepth 100000
set_option maxHeartbeats 4000000
namespace K20
open PySem PySem.Spec PyProof.Rows L2
local macro_rules | `(tactic| walk_at "q1") => `(tactic| first
  | with_reducible refine r_seq ?_ | with_reducible refine r_asg ?_ | with_reducible refine r_name ?_ | with_reducible refine r_ret ?_ | with_reducible refine r_ifS ?_ | with_reducible refine r_next ?_ | with_reducible refine r_drop ?_
  | ((with_reducible show tVar _ _ _ _); refine ⟨_, rfl, ?_⟩) | with_reducible refine r_c ?_ | with_reducible refine r_op ?_ | with_reducible refine r_un ?_ | with_reducible refine r_I0 ?_ | with_reducible refine r_U ?_
  | with_reducible refine r_eqI ?_ | with_reducible refine r_neI ?_ | with_reducible refine r_neB ?_ | with_reducible refine r_cb ?_ | with_reducible refine r_cons ?_ | with_reducible refine r_nil ?_ | with_reducible refine r_test ?_ | with_reducible refine r_tB ?_
  | with_reducible refine r_bl ?_ | with_reducible refine r_not ?_ | with_reducible refine r_notV ?_ | with_reducible refine r_and ?_ | with_reducible refine r_or ?_ | with_reducible refine r_andV ?_ | with_reducible refine r_orV ?_ | with_reducible refine r_if ?_
  | with_reducible refine r_T ?_ | with_reducible refine r_F ?_ | with_reducible refine r_NT ?_ | with_reducible refine r_NF ?_ | with_reducible refine r_call ?_ | with_reducible refine r_meth ?_ | with_reducible refine r_int1 ?_ | with_reducible refine r_fld ?_
  | with_reducible refine r_tup ?_ | with_reducible refine r_lst ?_ | with_reducible refine r_par ?_ | with_reducible refine r_par3 ?_ | with_reducible refine r_two ?_ | with_reducible refine r_three ?_ | with_reducible refine r_abs ?_ | with_reducible refine r_max ?_
  | with_reducible refine r_cut ?_ | with_reducible refine r_callS ?_ | with_reducible refine r_zipA ?_ | with_reducible refine r_isN ?_ | with_reducible refine r_lc ?_ | with_reducible refine r_lc2 ?_ | with_reducible refine r_mkB ?_ | with_reducible refine r_for ?_ | with_reducible refine r_iList ?_ | with_reducible refine r_iTup ?_ | with_reducible refine r_revL ?_ | with_reducible refine r_star ?_ | with_reducible refine r_bits ?_ | with_reducible refine r_iRng ?_ | with_reducible refine r_iEnum ?_ | with_reducible refine r_iZip ?_ | with_reducible refine r_sub ?_ | with_reducible refine r_sfld ?_ | with_reducible refine r_bm ?_
  | with_reducible refine r_methK ?_ | with_reducible refine r_methS ?_ | with_reducible refine r_make ?_ | with_reducible refine r_mod ?_ | with_reducible refine r_gtup ?_ | with_reducible refine r_gcons ?_ | with_reducible refine r_gnil ?_ | with_reducible refine r_slc ?_ | with_reducible refine r_part ?_ | with_reducible refine r_noPart ?_)
local macro_rules | `(tactic| walk_at "nw") => `(tactic| (intro p hp; generalize hu : upd _ p _ = H1; obtain ⟨s1, hp1⟩ := nwx hp hu; clear hu))
local macro_rules | `(tactic| walk_at "q") => `(tactic| repeat walk_at "q1")
section
variable {P : Program} {w : World} {K : Fr} {mg : Str → Option Value} {base : Heap}
/-- the type of a scalar -/
inductive Sc : V → String → Prop
  | int (i : Int) : Sc (.int i) "int"
  | str (s : Str) : Sc (.str s) "str"
  | bl (b : Bool) : Sc (.bl b) "bool"
theorem Sc.ty {x : V} {t : String} {H : Hp} (h : Sc x t) : TyX K H x (.type t) := by
  cases h with
  | int i => exact .base (.int i)
  | str s => exact .base (.str s)
  | bl b => exact .base (.bl b)
theorem Sc.kit {x : V} {t : String} (h : Sc x t) : kitB t "list" = some false ∧ kitB t "tuple" = some false ∧ kitB t "dict" = some false ∧ (∃ b, kitB t "bool" = some b) ∧ (∃ b, kitB t "str" = some b) ∧ ∃ b, kitB t "int" = some b := by
  cases h
  · exact ⟨by decide +kernel, by decide +kernel, by decide +kernel, ⟨false, by decide +kernel⟩, ⟨false, by decide +kernel⟩, ⟨true, by decide +kernel⟩⟩
  · exact ⟨by decide +kernel, by decide +kernel, by decide +kernel, ⟨false, by decide +kernel⟩, ⟨true, by decide +kernel⟩, ⟨false, by decide +kernel⟩⟩
  · exact ⟨by decide +kernel, by decide +kernel, by decide +kernel, ⟨true, by decide +kernel⟩, ⟨false, by decide +kernel⟩, ⟨true, by decide +kernel⟩⟩
theorem Sc.non {x : V} {t : String} (h : Sc x t) : x ≠ .non := by
  cases h <;> exact fun e => by cases e
theorem Sc.sc {x : V} {t : String} (h : Sc x t) : scal x x = true := by
  cases h <;> rfl
def Like0 (x y : V) (H : Hp) : Prop := (∃ t, Sc x t ∧ y = x) ∨ (x = .non ∧ y = .non) ∨ ∃ a kvs, x = .ref a ∧ y = .ref a ∧ H a = some (.dK kvs)
def Like : Nat → V → V → Hp → Prop
  | 0, x, y, H => Like0 x y H
  | n + 1, x, y, H => Like0 x y H ∨ ∃ a b kd xs ys, x = .ref a ∧ y = .ref b ∧ H a = some (sq kd xs) ∧ H b = some (sq kd ys) ∧ xs.length = ys.length ∧ xs.length ≤ 1000 ∧ ∀ (i : Nat) u v, xs[i]? = some u → ys[i]? = some v → Like n u v H
theorem Like0.same {x y : V} {H H' : Hp} (h : Like0 x y H) (s : Same H H') : Like0 x y H' := by
  rcases h with h | h | ⟨a, kvs, e1, e2, e3⟩
  · exact .inl h
  · exact .inr (.inl h)
  · exact .inr (.inr ⟨a, kvs, e1, e2, s _ _ e3⟩)
theorem Like.same : ∀ {n : Nat} {x y : V} {H H' : Hp}, Like n x y H → Same H H' → Like n x y H'
  | 0, _, _, _, _, h, s => Like0.same h s
  | n + 1, _, _, _, _, h, s => by
    rcases h with h | ⟨a, b, kd, xs, ys, e1, e2, e3, e4, e5, e6, e7⟩
    · exact .inl (Like0.same h s)
    · exact .inr ⟨a, b, kd, xs, ys, e1, e2, s _ _ e3, s _ _ e4, e5, e6, fun i u v h1 h2 => Like.same (e7 i u v h1 h2) s⟩
def spLike (n : Nat) : Sp := fun vs H Q _ => ∃ x y, vs = [x, y] ∧ Like n x y H ∧ ∀ H', Same H H' → Q (.bl true) H'
theorem spLike_len (n : Nat) : ∀ vs H Q E, spLike n vs H Q E → vs.length = (["_law_found", "_law_due"] : List Str).length := by
  intro vs H Q E h
  obtain ⟨x, y, rfl, _⟩ := h
  rfl
theorem sq_tyL {kd : Bool} {xs : List V} {a : Addr} {H : Hp} (h : H a = some (sq kd xs)) : TyX K H (.ref a) (.type (if kd then "list" else "tuple")) := by
  cases kd with
  | true => exact .base (.lst h)
  | false => exact .base (.tup h)
theorem zw_L {a b : Addr} {xs ys : List V} : Walk (Itz K a b) (min xs.length ys.length) (fun H' => H' a = some (sq true xs) ∧ H' b = some (sq true ys)) (YPair (fun i => xs[i]?) (fun i => ys[i]?)) := (walk_zip rfl).mono (fun _ q => ⟨SqL.of q.1, SqL.of q.2⟩) fun _ _ _ _ _ _ y => y
theorem zw_T {a b : Addr} {xs ys : List V} : Walk (RZ.ItzT K a b) (min xs.length ys.length) (fun H' => H' a = some (sq false xs) ∧ H' b = some (sq false ys)) (YPair (fun i => xs[i]?) (fun i => ys[i]?)) := (walk_zipT rfl).mono (fun _ q => ⟨SqT.of q.1, SqT.of q.2⟩) fun _ _ _ _ _ _ y => y
theorem ok_like (T : Txt K mg) : ∀ n, ∃ fd, FnOk P w K mg base C8.CX0 (n + 1) 919 fd ["_law_found", "_law_due"] (spLike n) ∧ Binds K fd ["_law_found", "_law_due"] [] := by
  intro n
  have IH : n = 0 ∨ ∃ m, n = m + 1 := by cases n <;> simp
  have FLm : ∀ m, n = m + 1 → ∃ fd, FnOk P w K mg base C8.CX0 (m + 1) 919 fd ["_law_found", "_law_due"] (spLike m) ∧ Binds K fd ["_law_found", "_law_due"] [] := fun m e => ok_like T m
  obtain ⟨fdL, FL, bL⟩ : ∃ fd, FnOk P w K mg base C8.CX0 n 919 fd ["_law_found", "_law_due"] (fun vs H Q E => ∃ m, n = m + 1 ∧ spLike m vs H Q E) ∧ Binds K fd ["_law_found", "_law_due"] [] := by
    cases n with
    | zero =>
      obtain ⟨fd, hF, df, _⟩ := T.f_law_like.fun_
      refine ⟨fd, ⟨fun vs H Q E ⟨m, e, _⟩ => (by cases e), fun A outer s H args us vs Q E hr e0 b r ⟨m, e, _⟩ => (by cases e)⟩, hF.binds df (fun _ _ _ _ _ _ us hl => match us, hl with | [_, _], _ => rfl)⟩
    | succ m =>
      obtain ⟨fd, F, b⟩ := FLm m rfl
      exact ⟨fd, F.imp fun vs H Q E ⟨m', e, h⟩ => by cases e; exact h, b⟩
  have S : FnScope ["_law_found", "_law_due", "_law_one", "_law_two"] ["_law_found", "_law_due"] (C8.fnScope (top 62)) := C8.fnScope_by (by decide +kernel)
  refine fn_of_df T.f_law_like S (fun _ _ _ _ _ _ us hl => match us, hl with | [_, _], _ => rfl) (fun vs H Q E h => ?_) (fun cdv A outer s H vs Q E hr h => ?_)
  · exact spLike_len n vs H Q E h
  · obtain ⟨x, y, rfl, hk, h⟩ := h
    have REC : ∀ (m : Nat), n = m + 1 → ∀ (u v : V) (H4 : Hp) (Kc : VK) (E' : XK), Like m u v H4 → (∀ H6, Same H4 H6 → Kc (.bl true) H6) → ∃ m, n = m + 1 ∧ spLike m [u, v] H4 Kc E' := fun m e u v H4 Kc E' lk kc => ⟨m, e, u, v, rfl, lk, kc⟩
    refine ⟨_, (pss_cons (ps_if (pt_val (pe_callB (call_isiTK (K := K) rfl) rfl T.z_isinstance (by decide +kernel) (pa_cons (pv 1) (pa_cons (pe_tup (pa_cons (pe_ty "list" T.z_list) (pa_cons (pe_ty "tuple" T.z_tuple) pa_nil))) pa_nil)))) (pss_cons (ps_if (PW.pt (pw_or (pt_cmpR op_ne (pe_callB (call_isiK (K := K) rfl) rfl T.z_isinstance (by decide +kernel) (pa_cons (pv 0) (pa_cons (pe_ty "list" T.z_list) pa_nil))) (pe_callB (call_isiK (K := K) rfl) rfl T.z_isinstance (by decide +kernel) (pa_cons (pv 1) (pa_cons (pe_ty "list" T.z_list) pa_nil))) (nomark _)) (pw_or1 (pt_cmpR op_ne (pe_callB (call_isiK (K := K) rfl) rfl T.z_isinstance (by decide +kernel) (pa_cons (pv 0) (pa_cons (pe_ty "tuple" T.z_tuple) pa_nil))) (pe_callB (call_isiK (K := K) rfl) rfl T.z_isinstance (by decide +kernel) (pa_cons (pv 1) (pa_cons (pe_ty "tuple" T.z_tuple) pa_nil))) (nomark _))))) (pss_one (ps_ret pe_bl)) pss_nil)
      (pss_one (ps_ret (pe_and (pe_cmpR op_eq (pe_callB (call_or call_len_seq call_lenD) rfl T.z_len (by decide +kernel) (pa_cons (pv 0) pa_nil)) (pe_callB (call_or call_len_seq call_lenD) rfl T.z_len (by decide +kernel) (pa_cons (pv 1) pa_nil)) (nomark _)) (pe_one (pe_callB (cr_all rfl) rfl T.z_all (by decide +kernel) (pa_cons (pe_lc (own := [("_law_one", 2), ("_law_two", 3)]) rfl S.nd (RZ.pi_zipA rfl T.z_zip (pa_cons (pv 0) (pa_cons (pv 1) pa_nil))) (blkOk_by (N := ["_law_found", "_law_due", "_law_one", "_law_two"]) (sc := C8.fnScope (top 62)) (by decide +kernel)) (fun _ _ _ _ _ => (pg_tupK (K := K) (n := 2) rfl rfl (pgs_cons (pg_name (i := 2) S.nd rfl (Or.inl rfl)) (pgs_cons (pg_name (i := 3) S.nd rfl (Or.inl rfl)) pgs_nil)))) (fun _ _ _ _ _ => pts_nil) (fun _ _ _ _ _ => (pe_callS FL (hr.mono (by omega)) rfl T.g_law_like T.f_law_like.kp bL (fun _ => pass0' _ _) (pa_cons (pv 2) (pa_cons (pv 3) pa_nil))))) pa_nil))))))) pss_nil)
      (pss_cons (ps_if (PW.pt (pw_or (pt_cmpR op_isN (pv 1) pe_non (nomark _)) (pw_or1 (pt_cmpR op_isN (pv 0) pe_non (nomark _))))) (pss_one (ps_ret (pe_and (pe_cmpR op_isN (pv 1) pe_non (nomark _)) (pe_one (pe_cmpR op_isN (pv 0) pe_non (nomark _)))))) pss_nil)
      (pss_cons (ps_if (pt_val (pe_callB (call_isiK (K := K) rfl) rfl T.z_isinstance (by decide +kernel) (pa_cons (pv 1) (pa_cons (pe_ty "dict" T.z_dict) pa_nil)))) (pss_one (ps_ret (pe_and (pe_callB (call_isiK (K := K) rfl) rfl T.z_isinstance (by decide +kernel) (pa_cons (pv 0) (pa_cons (pe_ty "dict" T.z_dict) pa_nil))) (pe_one (pe_cmpR op_eq (pe_callB (call_or call_len_seq call_lenD) rfl T.z_len (by decide +kernel) (pa_cons (pv 0) pa_nil)) (pe_callB (call_or call_len_seq call_lenD) rfl T.z_len (by decide +kernel) (pa_cons (pv 1) pa_nil)) (nomark _)))))) pss_nil)
      (pss_cons (ps_if (PW.pt (pw_or (pt_val (pe_callB (call_isiTK (K := K) rfl) rfl T.z_isinstance (by decide +kernel) (pa_cons (pv 0) (pa_cons (pe_tup (pa_cons (pe_ty "list" T.z_list) (pa_cons (pe_ty "tuple" T.z_tuple) (pa_cons (pe_ty "dict" T.z_dict) pa_nil)))) pa_nil)))) (pw_or1 (pt_cmpR op_ne (pe_callB (call_isiK (K := K) rfl) rfl T.z_isinstance (by decide +kernel) (pa_cons (pv 0) (pa_cons (pe_ty "bool" T.z_bool) pa_nil))) (pe_callB (call_isiK (K := K) rfl) rfl T.z_isinstance (by decide +kernel) (pa_cons (pv 1) (pa_cons (pe_ty "bool" T.z_bool) pa_nil))) (nomark _))))) (pss_one (ps_ret pe_bl)) pss_nil)
      (pss_cons (ps_if (PW.pt (pw_or (pt_cmpR op_ne (pe_callB (call_isiK (K := K) rfl) rfl T.z_isinstance (by decide +kernel) (pa_cons (pv 0) (pa_cons (pe_ty "str" T.z_str) pa_nil))) (pe_callB (call_isiK (K := K) rfl) rfl T.z_isinstance (by decide +kernel) (pa_cons (pv 1) (pa_cons (pe_ty "str" T.z_str) pa_nil))) (nomark _)) (pw_or1 (pt_cmpR op_ne (pe_callB (call_isiK (K := K) rfl) rfl T.z_isinstance (by decide +kernel) (pa_cons (pv 0) (pa_cons (pe_ty "int" T.z_int) pa_nil))) (pe_callB (call_isiK (K := K) rfl) rfl T.z_isinstance (by decide +kernel) (pa_cons (pv 1) (pa_cons (pe_ty "int" T.z_int) pa_nil))) (nomark _))))) (pss_one (ps_ret pe_bl)) pss_nil)
      (pss_one (ps_ret (pe_cmpR op_eq (pv 0) (pv 1) (nomark _))))))))), ?_⟩
    walk_at "q"
    refine ⟨(show (2 : Nat) ≤ sizeLine by decide), ?_⟩
    walk_at "nw"
    rename_i p0 np0 H1 s1 hp0
    walk_at "q"
    have hk1 := hk.same s1
    have flat : Like0 x y H1 → (Like0 x y H1) := id
    by_cases seq : ∃ a b kd xs ys, x = .ref a ∧ y = .ref b ∧ H1 a = some (sq kd xs) ∧ H1 b = some (sq kd ys) ∧ xs.length = ys.length ∧ xs.length ≤ 1000 ∧ ∀ (i : Nat) u v, xs[i]? = some u → ys[i]? = some v → ∃ m, n = m + 1 ∧ Like m u v H1
    · obtain ⟨a, b, kd, xs, ys, rfl, rfl, ha, hb, hl, hl2, hit⟩ := seq
      refine r_isSq hp0 hb ?_
      walk_at "q"
      refine r_isB (a := if kd then "list" else "tuple") (r := kd) (by cases kd <;> decide +kernel) (sq_tyL ha) ?_
      walk_at "q"
      refine r_isB (a := if kd then "list" else "tuple") (r := kd) (by cases kd <;> decide +kernel) (sq_tyL hb) ?_
      walk_at "q"
      rw [show (kd != kd) = false by cases kd <;> rfl]
      walk_at "q"
      refine r_isB (a := if kd then "list" else "tuple") (r := !kd) (by cases kd <;> decide +kernel) (sq_tyL ha) ?_
      walk_at "q"
      refine r_isB (a := if kd then "list" else "tuple") (r := !kd) (by cases kd <;> decide +kernel) (sq_tyL hb) ?_
      walk_at "q"
      rw [show ((!kd) != (!kd)) = false by cases kd <;> rfl]
      walk_at "q"
      refine .inl ⟨a, xs, rfl, sq_or ha, ?_⟩
      walk_at "q"
      refine .inl ⟨b, ys, rfl, sq_or hb, ?_⟩
      walk_at "q"
      refine r_pos (by omega) ?_
      walk_at "q"
      refine ⟨a, b, xs, ys, rfl, ?_⟩
      cases kd
      all_goals
        first | (refine .inl ⟨SqL.of ha, SqL.of hb, ?_⟩; have wk := zw_L (K := K) (a := a) (b := b) (xs := xs) (ys := ys)) | (refine .inr ⟨SqT.of ha, SqT.of hb, ?_⟩; have wk := zw_T (K := K) (a := a) (b := b) (xs := xs) (ys := ys))
        intro D hD
        refine lc_inv wk hD (fun i acc H' => acc = (List.replicate i true).map V.bl ∧ Same H1 H') ⟨rfl, Same.refl _⟩ (fun i acc H' o ⟨e, s⟩ => ⟨e, fun b u e => by rw [upd_ne (ne_of_none e hD)]; exact s b u e⟩) (fun i acc H' ⟨_, s⟩ => ⟨s _ _ ha, s _ _ hb⟩) (by omega) ?_ ?_
        · rintro i acc v H4 H5 hi hla ⟨e, s4⟩ hD2 ⟨Tp, y1, z1, rfl, hT, rfl, hy, hz⟩ Kc kc
          obtain ⟨m, em, lk⟩ := hit i y1 z1 hy hz
          have sT : Same H4 (upd H4 Tp (.tup [y1, z1])) := same_upd hT
          refine ⟨_, _, rfl, SqT.of upd_same, rfl, ?_⟩
          walk_at "q"
          refine ⟨rfl, ?_⟩
          walk_at "q"
          refine REC m em y1 z1 _ _ _ (lk.same (s4.trans sT)) fun H6 s6 => ?_
          exact kc _ _ (s6 _ _ (sT _ _ hD2)) ⟨by rw [e, List.replicate_succ', List.map_append]; rfl, s4.trans (sT.trans s6)⟩
        · rintro acc H4 hla ⟨e, s4⟩ hD2
          rw [e] at hD2
          walk_at "q"
          refine ⟨_, _, rfl, SqL.of hD2, ?_⟩
          rw [all_true]
          exact h _ (s1.trans s4)
    · have h0 : Like0 x y H1 := by
        cases n with
        | zero => exact hk1
        | succ m =>
          rcases hk1 with q | ⟨a, b, kd, xs, ys, e1, e2, e3, e4, e5, e6, e7⟩
          · exact q
          · exact absurd ⟨a, b, kd, xs, ys, e1, e2, e3, e4, e5, e6, fun i u v h1 h2 => ⟨m, rfl, e7 i u v h1 h2⟩⟩ seq
      rcases h0 with ⟨t, sc, rfl⟩ | ⟨rfl, rfl⟩ | ⟨a, kvs, rfl, rfl, ha⟩
      · obtain ⟨k1, k2, k3, ⟨b1, k4⟩, ⟨b2, k5⟩, ⟨b3, k6⟩⟩ := sc.kit
        have nn := sc.non
        refine r_isLT (r := false) hp0 k1 k2 rfl sc.ty ?_
        walk_at "q"
        refine ⟨rfl, ?_⟩
        rw [decide_eq_false nn]
        walk_at "q"
        refine ⟨rfl, ?_⟩
        rw [decide_eq_false nn]
        walk_at "q"
        refine r_isB k3 sc.ty ?_
        walk_at "q"
        refine ⟨(show (3 : Nat) ≤ sizeLine by decide), ?_⟩
        walk_at "nw"
        rename_i p2 np2 H2 s2 hp2
        walk_at "q"
        refine r_isT3 (r := false) hp2 k1 k2 k3 rfl sc.ty ?_
        walk_at "q"
        refine r_isB k4 sc.ty ?_
        walk_at "q"
        refine r_isB k4 sc.ty ?_
        walk_at "q"
        rw [show (b1 != b1) = false by cases b1 <;> rfl]
        walk_at "q"
        refine r_isB k5 sc.ty ?_
        walk_at "q"
        refine r_isB k5 sc.ty ?_
        walk_at "q"
        rw [show (b2 != b2) = false by cases b2 <;> rfl]
        walk_at "q"
        refine r_isB k6 sc.ty ?_
        walk_at "q"
        refine r_isB k6 sc.ty ?_
        walk_at "q"
        rw [show (b3 != b3) = false by cases b3 <;> rfl]
        walk_at "q"
        refine ⟨sc.sc, ?_⟩
        first | refine ⟨rfl, ?_⟩ | skip
        rw [decide_eq_true rfl]
        exact h _ (s1.trans s2)
      · refine r_isLT (a := "NoneType") (r := false) hp0 (show kitB "NoneType" "list" = some false by decide +kernel) (show kitB "NoneType" "tuple" = some false by decide +kernel) rfl (.base .non) ?_
        walk_at "q"
        refine ⟨rfl, ?_⟩
        rw [decide_eq_true (show V.non = V.non from rfl)]
        walk_at "q"
        refine ⟨rfl, ?_⟩
        rw [decide_eq_true (show V.non = V.non from rfl)]
        walk_at "q"
        rw [decide_eq_true (show V.non = V.non from rfl)]
        exact h _ s1
      · refine r_isLT (a := "dict") (r := false) hp0 (show kitB "dict" "list" = some false by decide +kernel) (show kitB "dict" "tuple" = some false by decide +kernel) rfl (.base (.dK ha)) ?_
        walk_at "q"
        refine ⟨rfl, ?_⟩
        rw [decide_eq_false (show V.ref a ≠ .non from fun e => by cases e)]
        walk_at "q"
        refine ⟨rfl, ?_⟩
        rw [decide_eq_false (show V.ref a ≠ .non from fun e => by cases e)]
        walk_at "q"
        refine r_isB (a := "dict") (r := true) (by decide +kernel) (.base (.dK ha)) ?_
        walk_at "q"
        refine r_isB (a := "dict") (r := true) (by decide +kernel) (.base (.dK ha)) ?_
        walk_at "q"
        refine .inr ⟨a, kvs, rfl, ha, ?_⟩
        walk_at "q"
        refine .inr ⟨a, kvs, rfl, ha, ?_⟩
        walk_at "q"
        first | refine ⟨rfl, ?_⟩ | skip
        rw [decide_eq_true rfl]
        exact h _ s1
theorem ok_likeH (T : Txt K mg) : ∀ n, ∃ fd, L2H.FnH P w K mg base C8.CX0 (n + 1) 919 fd ["_law_found", "_law_due"] (spLike n) ∧ Binds K fd ["_law_found", "_law_due"] [] := by
  intro n
  have FLm : ∀ m, n = m + 1 → ∃ fd, L2H.FnH P w K mg base C8.CX0 (m + 1) 919 fd ["_law_found", "_law_due"] (spLike m) ∧ Binds K fd ["_law_found", "_law_due"] [] := fun m e => ok_likeH T m
  obtain ⟨fdL, FL, bL⟩ : ∃ fd, L2H.FnH P w K mg base C8.CX0 n 919 fd ["_law_found", "_law_due"] (fun vs H Q E => ∃ m, n = m + 1 ∧ spLike m vs H Q E) ∧ Binds K fd ["_law_found", "_law_due"] [] := by
    cases n with
    | zero =>
      obtain ⟨fd, hF, df, _⟩ := T.f_law_like.fun_
      refine ⟨fd, ⟨fun vs H Q E ⟨m, e, _⟩ => (by cases e), fun A outer s H args us vs Q E p hr hot hpin e0 b r ⟨m, e, _⟩ => (by cases e)⟩, hF.binds df (fun _ _ _ _ _ _ us hl => match us, hl with | [_, _], _ => rfl)⟩
    | succ m =>
      obtain ⟨fd, F, b⟩ := FLm m rfl
      exact ⟨fd, ⟨fun vs H Q E ⟨m', e, h⟩ => (by cases e; exact F.len vs H Q E h), fun A outer s H args us vs Q E p hr hot hpin e0 bb r ⟨m', e, h⟩ => (by cases e; exact F.run A outer s H args us vs Q E p hr hot hpin e0 bb r h)⟩, b⟩
  have S : FnScope ["_law_found", "_law_due", "_law_one", "_law_two"] ["_law_found", "_law_due"] (C8.fnScope (top 62)) := C8.fnScope_by (by decide +kernel)
  obtain ⟨fd, hF, df, kV, doc, pm, an, ct, efd⟩ := T.f_law_like.fun_
  obtain ⟨oc, od, kV', doc', pm', an', ct', osl, h1, h2⟩ := T.f_law_like.ex
  refine ⟨_, L2H.fn_ofH h1 h2 S (spLike_len n) (fun A outer s H vs Q E p hot hr h => ?_), .all (fun us hl => match us, hl with | [_, _], _ => rfl)⟩
  · obtain ⟨x, y, rfl, hk, h⟩ := h
    have REC : ∀ (m : Nat), n = m + 1 → ∀ (u v : V) (H4 : Hp) (Kc : VK) (E' : XK), Like m u v H4 → (∀ H6, Same H4 H6 → Kc (.bl true) H6) → ∃ m, n = m + 1 ∧ spLike m [u, v] H4 Kc E' := fun m e u v H4 Kc E' lk kc => ⟨m, e, u, v, rfl, lk, kc⟩
    have hc : L2H.HotC (L2H.cxH C8.CX0 P w K mg base ["_law_found", "_law_due", "_law_one", "_law_two"] "_law_like" (C8.fnScope (top 62)) 919 (.ref 918) A outer s H E p) := ⟨p, hot, List.mem_cons_self⟩
    refine ⟨_, (pss_cons (ps_if (pt_val (pe_callB (call_isiTK (K := K) rfl) rfl T.z_isinstance (by decide +kernel) (pa_cons (pv 1) (pa_cons (pe_tup (pa_cons (pe_ty "list" T.z_list) (pa_cons (pe_ty "tuple" T.z_tuple) pa_nil))) pa_nil)))) (pss_cons (ps_if (PW.pt (pw_or (pt_cmpR op_ne (pe_callB (call_isiK (K := K) rfl) rfl T.z_isinstance (by decide +kernel) (pa_cons (pv 0) (pa_cons (pe_ty "list" T.z_list) pa_nil))) (pe_callB (call_isiK (K := K) rfl) rfl T.z_isinstance (by decide +kernel) (pa_cons (pv 1) (pa_cons (pe_ty "list" T.z_list) pa_nil))) (nomark _)) (pw_or1 (pt_cmpR op_ne (pe_callB (call_isiK (K := K) rfl) rfl T.z_isinstance (by decide +kernel) (pa_cons (pv 0) (pa_cons (pe_ty "tuple" T.z_tuple) pa_nil))) (pe_callB (call_isiK (K := K) rfl) rfl T.z_isinstance (by decide +kernel) (pa_cons (pv 1) (pa_cons (pe_ty "tuple" T.z_tuple) pa_nil))) (nomark _))))) (pss_one (ps_ret pe_bl)) pss_nil)
      (pss_one (ps_ret (pe_and (pe_cmpR op_eq (pe_callB (call_or call_len_seq call_lenD) rfl T.z_len (by decide +kernel) (pa_cons (pv 0) pa_nil)) (pe_callB (call_or call_len_seq call_lenD) rfl T.z_len (by decide +kernel) (pa_cons (pv 1) pa_nil)) (nomark _)) (pe_one (pe_callB (cr_allH (K := K) rfl hc) rfl T.z_all (by decide +kernel) (pa_cons (pe_lcH (own := [("_law_one", 2), ("_law_two", 3)]) hc S.nd (pi_zipH (K := K) rfl rfl T.z_zip (pa_cons (pv 0) (pa_cons (pv 1) pa_nil))) (blkOk_by (N := ["_law_found", "_law_due", "_law_one", "_law_two"]) (sc := C8.fnScope (top 62)) (by decide +kernel)) (fun _ _ _ _ _ => (pg_tupH (K := K) (n := 2) rfl hc (pgs_cons (pg_name (i := 2) S.nd rfl (Or.inl rfl)) (pgs_cons (pg_name (i := 3) S.nd rfl (Or.inl rfl)) pgs_nil)))) (fun _ _ _ _ _ => pts_nil) (fun _ _ _ _ _ => (L2H.pe_callH FL (hr.mono (by omega)) hc rfl T.g_law_like T.f_law_like.kp bL (fun _ => pass0' _ _) (pa_cons (pv 2) (pa_cons (pv 3) pa_nil)))) ) pa_nil))))))) pss_nil)
      (pss_cons (ps_if (PW.pt (pw_or (pt_cmpR op_isN (pv 1) pe_non (nomark _)) (pw_or1 (pt_cmpR op_isN (pv 0) pe_non (nomark _))))) (pss_one (ps_ret (pe_and (pe_cmpR op_isN (pv 1) pe_non (nomark _)) (pe_one (pe_cmpR op_isN (pv 0) pe_non (nomark _)))))) pss_nil)
      (pss_cons (ps_if (pt_val (pe_callB (call_isiK (K := K) rfl) rfl T.z_isinstance (by decide +kernel) (pa_cons (pv 1) (pa_cons (pe_ty "dict" T.z_dict) pa_nil)))) (pss_one (ps_ret (pe_and (pe_callB (call_isiK (K := K) rfl) rfl T.z_isinstance (by decide +kernel) (pa_cons (pv 0) (pa_cons (pe_ty "dict" T.z_dict) pa_nil))) (pe_one (pe_cmpR op_eq (pe_callB (call_or call_len_seq call_lenD) rfl T.z_len (by decide +kernel) (pa_cons (pv 0) pa_nil)) (pe_callB (call_or call_len_seq call_lenD) rfl T.z_len (by decide +kernel) (pa_cons (pv 1) pa_nil)) (nomark _)))))) pss_nil)
      (pss_cons (ps_if (PW.pt (pw_or (pt_val (pe_callB (call_isiTK (K := K) rfl) rfl T.z_isinstance (by decide +kernel) (pa_cons (pv 0) (pa_cons (pe_tup (pa_cons (pe_ty "list" T.z_list) (pa_cons (pe_ty "tuple" T.z_tuple) (pa_cons (pe_ty "dict" T.z_dict) pa_nil)))) pa_nil)))) (pw_or1 (pt_cmpR op_ne (pe_callB (call_isiK (K := K) rfl) rfl T.z_isinstance (by decide +kernel) (pa_cons (pv 0) (pa_cons (pe_ty "bool" T.z_bool) pa_nil))) (pe_callB (call_isiK (K := K) rfl) rfl T.z_isinstance (by decide +kernel) (pa_cons (pv 1) (pa_cons (pe_ty "bool" T.z_bool) pa_nil))) (nomark _))))) (pss_one (ps_ret pe_bl)) pss_nil)
      (pss_cons (ps_if (PW.pt (pw_or (pt_cmpR op_ne (pe_callB (call_isiK (K := K) rfl) rfl T.z_isinstance (by decide +kernel) (pa_cons (pv 0) (pa_cons (pe_ty "str" T.z_str) pa_nil))) (pe_callB (call_isiK (K := K) rfl) rfl T.z_isinstance (by decide +kernel) (pa_cons (pv 1) (pa_cons (pe_ty "str" T.z_str) pa_nil))) (nomark _)) (pw_or1 (pt_cmpR op_ne (pe_callB (call_isiK (K := K) rfl) rfl T.z_isinstance (by decide +kernel) (pa_cons (pv 0) (pa_cons (pe_ty "int" T.z_int) pa_nil))) (pe_callB (call_isiK (K := K) rfl) rfl T.z_isinstance (by decide +kernel) (pa_cons (pv 1) (pa_cons (pe_ty "int" T.z_int) pa_nil))) (nomark _))))) (pss_one (ps_ret pe_bl)) pss_nil)
      (pss_one (ps_ret (pe_cmpR op_eq (pv 0) (pv 1) (nomark _))))))))), ?_⟩
    walk_at "q"
    refine ⟨(show (2 : Nat) ≤ sizeLine by decide), ?_⟩
    walk_at "nw"
    rename_i p0 np0 H1 s1 hp0
    walk_at "q"
    have hk1 := hk.same s1
    have flat : Like0 x y H1 → (Like0 x y H1) := id
    by_cases seq : ∃ a b kd xs ys, x = .ref a ∧ y = .ref b ∧ H1 a = some (sq kd xs) ∧ H1 b = some (sq kd ys) ∧ xs.length = ys.length ∧ xs.length ≤ 1000 ∧ ∀ (i : Nat) u v, xs[i]? = some u → ys[i]? = some v → ∃ m, n = m + 1 ∧ Like m u v H1
    · obtain ⟨a, b, kd, xs, ys, rfl, rfl, ha, hb, hl, hl2, hit⟩ := seq
      refine r_isSq hp0 hb ?_
      walk_at "q"
      refine r_isB (a := if kd then "list" else "tuple") (r := kd) (by cases kd <;> decide +kernel) (sq_tyL ha) ?_
      walk_at "q"
      refine r_isB (a := if kd then "list" else "tuple") (r := kd) (by cases kd <;> decide +kernel) (sq_tyL hb) ?_
      walk_at "q"
      rw [show (kd != kd) = false by cases kd <;> rfl]
      walk_at "q"
      refine r_isB (a := if kd then "list" else "tuple") (r := !kd) (by cases kd <;> decide +kernel) (sq_tyL ha) ?_
      walk_at "q"
      refine r_isB (a := if kd then "list" else "tuple") (r := !kd) (by cases kd <;> decide +kernel) (sq_tyL hb) ?_
      walk_at "q"
      rw [show ((!kd) != (!kd)) = false by cases kd <;> rfl]
      walk_at "q"
      refine .inl ⟨a, xs, rfl, sq_or ha, ?_⟩
      walk_at "q"
      refine .inl ⟨b, ys, rfl, sq_or hb, ?_⟩
      walk_at "q"
      refine r_pos (by omega) ?_
      walk_at "q"
      refine ⟨a, b, xs, ys, rfl, ?_⟩
      cases kd
      all_goals
        first | (refine .inl ⟨SqL.of ha, SqL.of hb, ?_⟩; have wk := zw_L (K := K) (a := a) (b := b) (xs := xs) (ys := ys)) | (refine .inr ⟨SqT.of ha, SqT.of hb, ?_⟩; have wk := zw_T (K := K) (a := a) (b := b) (xs := xs) (ys := ys))
        intro D hD
        refine lc_inv wk hD (fun i acc H' => acc = (List.replicate i true).map V.bl ∧ Same H1 H') ⟨rfl, Same.refl _⟩ (fun i acc H' o ⟨e, s⟩ => ⟨e, fun b u e => by rw [upd_ne (ne_of_none e hD)]; exact s b u e⟩) (fun i acc H' ⟨_, s⟩ => ⟨s _ _ ha, s _ _ hb⟩) (by omega) ?_ ?_
        · rintro i acc v H4 H5 hi hla ⟨e, s4⟩ hD2 ⟨Tp, y1, z1, rfl, hT, rfl, hy, hz⟩ Kc kc
          obtain ⟨m, em, lk⟩ := hit i y1 z1 hy hz
          have sT : Same H4 (upd H4 Tp (.tup [y1, z1])) := same_upd hT
          refine ⟨_, _, rfl, SqT.of upd_same, rfl, ?_⟩
          walk_at "q"
          refine ⟨rfl, ?_⟩
          walk_at "q"
          refine REC m em y1 z1 _ _ _ (lk.same (s4.trans sT)) fun H6 s6 => ?_
          exact kc _ _ (s6 _ _ (sT _ _ hD2)) ⟨by rw [e, List.replicate_succ', List.map_append]; rfl, s4.trans (sT.trans s6)⟩
        · rintro acc H4 hla ⟨e, s4⟩ hD2
          rw [e] at hD2
          walk_at "q"
          refine ⟨_, _, rfl, SqL.of hD2, ?_⟩
          rw [all_true]
          exact h _ (s1.trans s4)
    · have h0 : Like0 x y H1 := by
        cases n with
        | zero => exact hk1
        | succ m =>
          rcases hk1 with q | ⟨a, b, kd, xs, ys, e1, e2, e3, e4, e5, e6, e7⟩
          · exact q
          · exact absurd ⟨a, b, kd, xs, ys, e1, e2, e3, e4, e5, e6, fun i u v h1 h2 => ⟨m, rfl, e7 i u v h1 h2⟩⟩ seq
      rcases h0 with ⟨t, sc, rfl⟩ | ⟨rfl, rfl⟩ | ⟨a, kvs, rfl, rfl, ha⟩
      · obtain ⟨k1, k2, k3, ⟨b1, k4⟩, ⟨b2, k5⟩, ⟨b3, k6⟩⟩ := sc.kit
        have nn := sc.non
        refine r_isLT (r := false) hp0 k1 k2 rfl sc.ty ?_
        walk_at "q"
        refine ⟨rfl, ?_⟩
        rw [decide_eq_false nn]
        walk_at "q"
        refine ⟨rfl, ?_⟩
        rw [decide_eq_false nn]
        walk_at "q"
        refine r_isB k3 sc.ty ?_
        walk_at "q"
        refine ⟨(show (3 : Nat) ≤ sizeLine by decide), ?_⟩
        walk_at "nw"
        rename_i p2 np2 H2 s2 hp2
        walk_at "q"
        refine r_isT3 (r := false) hp2 k1 k2 k3 rfl sc.ty ?_
        walk_at "q"
        refine r_isB k4 sc.ty ?_
        walk_at "q"
        refine r_isB k4 sc.ty ?_
        walk_at "q"
        rw [show (b1 != b1) = false by cases b1 <;> rfl]
        walk_at "q"
        refine r_isB k5 sc.ty ?_
        walk_at "q"
        refine r_isB k5 sc.ty ?_
        walk_at "q"
        rw [show (b2 != b2) = false by cases b2 <;> rfl]
        walk_at "q"
        refine r_isB k6 sc.ty ?_
        walk_at "q"
        refine r_isB k6 sc.ty ?_
        walk_at "q"
        rw [show (b3 != b3) = false by cases b3 <;> rfl]
        walk_at "q"
        refine ⟨sc.sc, ?_⟩
        first | refine ⟨rfl, ?_⟩ | skip
        rw [decide_eq_true rfl]
        exact h _ (s1.trans s2)
      · refine r_isLT (a := "NoneType") (r := false) hp0 (show kitB "NoneType" "list" = some false by decide +kernel) (show kitB "NoneType" "tuple" = some false by decide +kernel) rfl (.base .non) ?_
        walk_at "q"
        refine ⟨rfl, ?_⟩
        rw [decide_eq_true (show V.non = V.non from rfl)]
        walk_at "q"
        refine ⟨rfl, ?_⟩
        rw [decide_eq_true (show V.non = V.non from rfl)]
        walk_at "q"
        rw [decide_eq_true (show V.non = V.non from rfl)]
        exact h _ s1
      · refine r_isLT (a := "dict") (r := false) hp0 (show kitB "dict" "list" = some false by decide +kernel) (show kitB "dict" "tuple" = some false by decide +kernel) rfl (.base (.dK ha)) ?_
        walk_at "q"
        refine ⟨rfl, ?_⟩
        rw [decide_eq_false (show V.ref a ≠ .non from fun e => by cases e)]
        walk_at "q"
        refine ⟨rfl, ?_⟩
        rw [decide_eq_false (show V.ref a ≠ .non from fun e => by cases e)]
        walk_at "q"
        refine r_isB (a := "dict") (r := true) (by decide +kernel) (.base (.dK ha)) ?_
        walk_at "q"
        refine r_isB (a := "dict") (r := true) (by decide +kernel) (.base (.dK ha)) ?_
        walk_at "q"
        refine .inr ⟨a, kvs, rfl, ha, ?_⟩
        walk_at "q"
        refine .inr ⟨a, kvs, rfl, ha, ?_⟩
        walk_at "q"
        first | refine ⟨rfl, ?_⟩ | skip
        rw [decide_eq_true rfl]
        exact h _ s1
end
end K20

set_option Elab.async false
set_option linter.all false
set_option maxRecDepth 100000
set_option maxHeartbeats 4000000
namespace K20
open PySem PySem.Spec PyProof.Rows L2
local macro_rules | `(tactic| walk_at "q1") => `(tactic| first
  | with_reducible refine r_seq ?_ | with_reducible refine r_asg ?_ | with_reducible refine r_name ?_ | with_reducible refine r_ret ?_ | with_reducible refine r_ifS ?_ | with_reducible refine r_next ?_ | with_reducible refine r_drop ?_
  | ((with_reducible show tVar _ _ _ _); refine ⟨_, rfl, ?_⟩) | with_reducible refine r_c ?_ | with_reducible refine r_op ?_ | with_reducible refine r_un ?_ | with_reducible refine r_I0 ?_ | with_reducible refine r_U ?_
  | with_reducible refine r_eqI ?_ | with_reducible refine r_neI ?_ | with_reducible refine r_neB ?_ | with_reducible refine r_cb ?_ | with_reducible refine r_cons ?_ | with_reducible refine r_nil ?_ | with_reducible refine r_test ?_ | with_reducible refine r_tB ?_
  | with_reducible refine r_bl ?_ | with_reducible refine r_not ?_ | with_reducible refine r_notV ?_ | with_reducible refine r_and ?_ | with_reducible refine r_or ?_ | with_reducible refine r_andV ?_ | with_reducible refine r_orV ?_ | with_reducible refine r_if ?_
  | with_reducible refine r_T ?_ | with_reducible refine r_F ?_ | with_reducible refine r_NT ?_ | with_reducible refine r_NF ?_ | with_reducible refine r_call ?_ | with_reducible refine r_meth ?_ | with_reducible refine r_int1 ?_ | with_reducible refine r_fld ?_
  | with_reducible refine r_tup ?_ | with_reducible refine r_lst ?_ | with_reducible refine r_par ?_ | with_reducible refine r_par3 ?_ | with_reducible refine r_two ?_ | with_reducible refine r_three ?_ | with_reducible refine r_abs ?_ | with_reducible refine r_max ?_
  | with_reducible refine r_cut ?_ | with_reducible refine r_callS ?_ | with_reducible refine r_zipA ?_ | with_reducible refine r_isN ?_ | with_reducible refine r_lc ?_ | with_reducible refine r_lc2 ?_ | with_reducible refine r_mkB ?_ | with_reducible refine r_for ?_ | with_reducible refine r_iList ?_ | with_reducible refine r_iTup ?_ | with_reducible refine r_revL ?_ | with_reducible refine r_star ?_ | with_reducible refine r_bits ?_ | with_reducible refine r_iRng ?_ | with_reducible refine r_iEnum ?_ | with_reducible refine r_iZip ?_ | with_reducible refine r_sub ?_ | with_reducible refine r_sfld ?_ | with_reducible refine r_bm ?_
  | with_reducible refine r_methK ?_ | with_reducible refine r_methS ?_ | with_reducible refine r_make ?_ | with_reducible refine r_mod ?_ | with_reducible refine r_gtup ?_ | with_reducible refine r_gcons ?_ | with_reducible refine r_gnil ?_ | with_reducible refine r_slc ?_ | with_reducible refine r_part ?_ | with_reducible refine r_noPart ?_)
local macro_rules | `(tactic| walk_at "nw") => `(tactic| (intro p hp; generalize hu : upd _ p _ = H1; obtain ⟨s1, hp1⟩ := nwx hp hu; clear hu))
local macro_rules | `(tactic| walk_at "q") => `(tactic| repeat walk_at "q1")
section
variable {P : Program} {w : World} {K : Fr} {mg : Str → Option Value} {base : Heap}
/-! ### the law's comparison of covers -/
theorem like_int (i : Int) (H : Hp) : ∀ n, Like n (.int i) (.int i) H
  | 0 => .inl ⟨_, .int i, rfl⟩
  | n + 1 => .inl (.inl ⟨_, .int i, rfl⟩)
theorem like_str (i : Str) (H : Hp) : ∀ n, Like n (.str i) (.str i) H
  | 0 => .inl ⟨_, .str i, rfl⟩
  | n + 1 => .inl (.inl ⟨_, .str i, rfl⟩)
theorem like_bl (i : Bool) (H : Hp) : ∀ n, Like n (.bl i) (.bl i) H
  | 0 => .inl ⟨_, .bl i, rfl⟩
  | n + 1 => .inl (.inl ⟨_, .bl i, rfl⟩)
theorem like_ints {ns : List Int} {a b : Addr} {H : Hp} (ha : H a = some (intL ns)) (hb : H b = some (intL ns)) (hl : ns.length ≤ 1000) (n : Nat) : Like (n + 1) (.ref a) (.ref b) H :=
  .inr ⟨a, b, true, _, _, rfl, rfl, ha, hb, rfl, by rw [List.length_map]; exact hl, fun i u v h1 h2 => by
    rw [h1] at h2
    cases h2
    obtain ⟨x, _, rfl⟩ := lst_at h1
    exact like_int x H n⟩
theorem like_two {a b : Addr} {x1 x2 y1 y2 : V} {H : Hp} {n : Nat} (ha : H a = some (.lst [x1, x2])) (hb : H b = some (.lst [y1, y2])) (h1 : Like n x1 y1 H) (h2 : Like n x2 y2 H) : Like (n + 1) (.ref a) (.ref b) H :=
  .inr ⟨a, b, true, _, _, rfl, rfl, ha, hb, rfl, by simp, fun i u v e1 e2 => by
    match i with
    | 0 => cases e1; cases e2; exact h1
    | 1 => cases e1; cases e2; exact h2
    | j + 2 => cases e1⟩
theorem cal_like (T : Txt K mg) (n : Nat) : C8.Cal P w K mg base (n + 1) "_law_like" (spLike n) [] := by
  obtain ⟨fd, F, b⟩ := ok_like T n
  exact ⟨919, fd, _, [], F, T.g_law_like, T.f_law_like.kp, b, .nil⟩
def spCovIs : Sp := fun vs H Q _ => ∃ (c so so' d : Addr) (z : Sz) (cv : Cov), vs = [.ref c, .ref d, .ref so'] ∧ CvAt so cv c H ∧ SzAt z so H ∧ SzAt z so' H ∧ OcAt cv d H ∧ cv.m.length ≤ 1000 ∧ ∀ H', Same H H' → Q (.bl true) H'
theorem ok_cover_is (T : Txt K mg) (c_law_like : C8.Cal P w K mg base 3 "_law_like" (spLike 2) []) (c_Sizes_eq : ∃ fd, FnOk P w K mg base C8.CX0 1 256 fd ["self", "other"] (spEq REqSz) ∧ Binds K fd ["self", "other"] []) (c_mask : C8.Met P w K mg base 1 377 "mask" spMask []) : C8.Cal P w K mg base 4 "_law_cover_is" spCovIs [] := by
  obtain ⟨fd1, F1, b1⟩ := c_Sizes_eq
  have S : FnScope ["_law_told", "_law_due", "_law_so"] ["_law_told", "_law_due", "_law_so"] (C8.fnScope (top 77)) := C8.fnScope_by (by decide +kernel)
  refine cal_of T.f_law_cover_is T.g_law_cover_is S (fun _ _ _ _ _ _ us hl => match us, hl with | [_, _, _], _ => rfl) (fun vs H Q E h => ?_) (fun cdv A outer s H vs Q E hr h => ?_)
  · obtain ⟨c, so, so', d, z, cv, rfl, _⟩ := h
    rfl
  · obtain ⟨c, so, so', d, z, cv, rfl, hc, hs, hs', hd, hl, h⟩ := h
    refine ⟨_, (pss_one (ps_ret (pe_and (C8.pe_c c_law_like hr (by decide) rfl (pa_cons (pe_lst (pa_cons (C8.pe_mt0 c_mask hr (by decide) (pv 0)) (pa_cons (pe_fldK (K := K) rfl (pv 0) rfl) pa_nil))) (pa_cons (pe_lst (pa_cons (pe_ix (ix_tupK (K := K) rfl) (pv 1) pe_int (fun _ _ => rfl)) (pa_cons (pe_ix (ix_tupK (K := K) rfl) (pv 1) pe_int (fun _ _ => rfl)) pa_nil))) pa_nil))) (pe_one (C8.pe_c c_law_like hr (by decide) rfl (pa_cons (pe_cmpR (op_eqG (rcG_ins (E := C8.E0) F1 T.e_Sizes.1 T.e_Sizes.2 b1 (fun _ _ _ _ _ _ _ h => h.elim)) (hr.mono (by decide))) (pe_fldK (K := K) rfl (pv 0) rfl) (pv 2) (nomark _)) (pa_cons pe_bl pa_nil))))))), ?_⟩
    obtain ⟨dc, mp, ec, fc⟩ := id hc
    obtain ⟨ml, ed, fd⟩ := id hd
    obtain ⟨d1, es⟩ := id hs
    obtain ⟨d2, es'⟩ := id hs'
    walk_at "q"
    refine ⟨c, dc, _, rfl, ec, by rfl, ?_⟩
    walk_at "q"
    refine ⟨c, so, cv, rfl, hc, fun r H2 nr s2 hr2 => ?_⟩
    walk_at "q"
    refine ⟨_, _, _, _, _, rfl, (s2 _ _ ec), T.c_Cover, T.n_Cover_body, rfl, ?_⟩
    walk_at "q"
    refine ⟨(show (2 : Nat) ≤ sizeLine by decide), ?_⟩
    walk_at "nw"
    rename_i p3 np3 H3 s3 hp3
    walk_at "q"
    have s13 := s2.trans s3
    refine ⟨d, _, 0, _, rfl, rfl, SqT.of (s13 _ _ ed), rfl, ?_⟩
    walk_at "q"
    refine ⟨d, _, 1, _, rfl, rfl, SqT.of (s13 _ _ ed), rfl, ?_⟩
    walk_at "q"
    refine ⟨(show (2 : Nat) ≤ sizeLine by decide), ?_⟩
    walk_at "nw"
    rename_i p4 np4 H4 s4 hp4
    walk_at "q"
    have s14 := s13.trans s4
    refine ⟨_, _, rfl, like_two (s4 _ _ hp3) hp4 (like_ints (s4 _ _ (s3 _ _ hr2)) (s14 _ _ fd) hl 0) (like_int _ _ _), fun H5 s5 => ?_⟩
    have s15 := s14.trans s5
    walk_at "q"
    refine ⟨_, _, _, _, _, rfl, (s15 _ _ ec), T.c_Cover, T.n_Cover_sizes, rfl, ?_⟩
    walk_at "q"
    refine ⟨⟨_, _, _, _, _, _, rfl, rfl, s15 _ _ es, s15 _ _ es', z, hs.same s15, hs'.same s15⟩, fun H6 e6 => ?_⟩
    walk_at "q"
    exact ⟨_, _, rfl, like_bl _ _ _, fun H7 s7 => h _ ((s15.trans e6).trans s7)⟩
end
end K20

set_option Elab.async false
set_option linter.all false
set_option maxRecDepth 100000
set_option maxHeartbeats 4000000
namespace K20
open PySem PySem.Spec PyProof.Rows L2
local macro_rules | `(tactic| walk_at "q1") => `(tactic| first
  | with_reducible refine r_seq ?_ | with_reducible refine r_asg ?_ | with_reducible refine r_name ?_ | with_reducible refine r_ret ?_ | with_reducible refine r_ifS ?_ | with_reducible refine r_next ?_ | with_reducible refine r_drop ?_
  | ((with_reducible show tVar _ _ _ _); refine ⟨_, rfl, ?_⟩) | with_reducible refine r_c ?_ | with_reducible refine r_op ?_ | with_reducible refine r_un ?_ | with_reducible refine r_I0 ?_ | with_reducible refine r_U ?_
  | with_reducible refine r_eqI ?_ | with_reducible refine r_neI ?_ | with_reducible refine r_neB ?_ | with_reducible refine r_cb ?_ | with_reducible refine r_cons ?_ | with_reducible refine r_nil ?_ | with_reducible refine r_test ?_ | with_reducible refine r_tB ?_
  | with_reducible refine r_bl ?_ | with_reducible refine r_not ?_ | with_reducible refine r_notV ?_ | with_reducible refine r_and ?_ | with_reducible refine r_or ?_ | with_reducible refine r_andV ?_ | with_reducible refine r_orV ?_ | with_reducible refine r_if ?_
  | with_reducible refine r_T ?_ | with_reducible refine r_F ?_ | with_reducible refine r_NT ?_ | with_reducible refine r_NF ?_ | with_reducible refine r_call ?_ | with_reducible refine r_meth ?_ | with_reducible refine r_int1 ?_ | with_reducible refine r_fld ?_
  | with_reducible refine r_tup ?_ | with_reducible refine r_lst ?_ | with_reducible refine r_par ?_ | with_reducible refine r_par3 ?_ | with_reducible refine r_two ?_ | with_reducible refine r_three ?_ | with_reducible refine r_abs ?_ | with_reducible refine r_max ?_
  | with_reducible refine r_cut ?_ | with_reducible refine r_callS ?_ | with_reducible refine r_zipA ?_ | with_reducible refine r_isN ?_ | with_reducible refine r_lc ?_ | with_reducible refine r_lc2 ?_ | with_reducible refine r_mkB ?_ | with_reducible refine r_for ?_ | with_reducible refine r_iList ?_ | with_reducible refine r_iTup ?_ | with_reducible refine r_revL ?_ | with_reducible refine r_star ?_ | with_reducible refine r_bits ?_ | with_reducible refine r_iRng ?_ | with_reducible refine r_iEnum ?_ | with_reducible refine r_iZip ?_ | with_reducible refine r_sub ?_ | with_reducible refine r_sfld ?_ | with_reducible refine r_bm ?_
  | with_reducible refine r_methK ?_ | with_reducible refine r_methS ?_ | with_reducible refine r_make ?_ | with_reducible refine r_mod ?_ | with_reducible refine r_gtup ?_ | with_reducible refine r_gcons ?_ | with_reducible refine r_gnil ?_ | with_reducible refine r_slc ?_ | with_reducible refine r_part ?_ | with_reducible refine r_noPart ?_)
local macro_rules | `(tactic| walk_at "nw") => `(tactic| (intro p hp; generalize hu : upd _ p _ = H1; obtain ⟨s1, hp1⟩ := nwx hp hu; clear hu))
local macro_rules | `(tactic| walk_at "q") => `(tactic| repeat walk_at "q1")
section
variable {P : Program} {w : World} {K : Fr} {mg : Str → Option Value} {base : Heap}
/-! ### led refuses, as the law sees it -/
theorem takes0N {X : Cx} : L2N.Takes X (fun _ _ _ _ => False) := fun _ _ x => by
  obtain ⟨_, _, _, _, _, _, _, _, _, _, _, _, _, _, _, _, z⟩ := x
  exact z.elim
theorem passAtN {X : Cx} {W : WX} (tk : L2N.Takes X W) (σ : L2.St) : PassesAt (L2N.CX X.prog X.w) X σ (WE W σ) := fun _ _ _ e s' I c => tk e s' (L2N.XE.of_call I (fun _ _ _ h => h) c)
theorem roomHm {k : Nat} {A : Around} (r : Room k A) (h : Option Value) : L2H.RoomH k (A.mark h) := ⟨r.dp, r.un⟩
theorem r_xf {a C : Addr} {cls : Value} {d : Option Addr} {f : Str} {te : TE} {σ : L2.St} {H : Hp} {Q : VK} (h : te σ H fun x H1 => x = .ref a ∧ cls = .ref C ∧ ∃ (dd : Addr) (fs : List (Str × V)) (v : V), d = some dd ∧ H1 dd = some (.xd fs) ∧ fs.lookup f = some v ∧ Q v H1) : tXf a cls d C f te σ H Q := h
def spRefL (K : Fr) : Sp := fun vs H Q _ => ∃ (a so : Addr) (z : Sz) (wd : Nat) (cs : List Cov) (nv bv : V) (at_ : Int), vs = [.ref a, nv, bv, .int at_] ∧ LedIn a so z wd cs H ∧ BadNums K H wd nv at_ ∧ ∀ H', Same H H' → Q (.bl true) H'
def spRefB (K : Fr) : Sp := fun vs H Q _ => ∃ (a so na : Addr) (z : Sz) (wd : Nat) (cs : List Cov) (ns : List Int) (kd : Bool) (bv : V), vs = [.ref a, .ref na, bv] ∧ LedIn a so z wd cs H ∧ H na = some (sq kd (ns.map V.int)) ∧ ns.length = wd ∧ NoInt K H bv ∧ Like 1 bv bv H ∧ ∀ H', Same H H' → Q (.bl true) H'
def tLikeAt (cls : Value) (d : Option Addr) (a C : Addr) (f : Str) (j i : Nat) (nm : Str) : TE := tCallS (spLike 2) (fun _ => C8.E0) (tCons (tLst (tCons (tXf a cls d C f (tVar j)) (tCons (tXf a cls d C "code" (tVar j)) tNil))) (tCons (tLst (tCons (tVar i) (tCons (tC (.str nm)) tNil))) tNil))
theorem ok_list_refused (T : Txt K mg) (c_led : MetX (L2N.CX P w) P w K mg base 5 621 "led" (spLed K)) : C8.Cal P w K mg base 8 "_law_list_refused" (spRefL K) [] := by
  obtain ⟨fdL, FL, bL⟩ := ok_likeH (P := P) (w := w) (base := base) T 2
  have S : FnScope ["_law_thing", "_law_row_here", "_law_body_y", "_law_due", "_law_e"] ["_law_thing", "_law_row_here", "_law_body_y", "_law_due"] (C8.fnScope (top 80)) := C8.fnScope_by (by decide +kernel)
  refine cal_of T.f_law_list_refused T.g_law_list_refused S (fun _ _ _ _ _ _ us hl => match us, hl with | [_, _, _, _], _ => rfl) (fun vs H Q E h => ?_) (fun cdv A outer s H vs Q E hr h => ?_)
  · obtain ⟨a, so, z, wd, cs, nv, bv, at_, rfl, _⟩ := h
    rfl
  · obtain ⟨a, so, z, wd, cs, nv, bv, at_, rfl, L, bad, h⟩ := h
    refine ⟨_, pss_cons (L2N.ps_try_as (i := 4) (c := .ref 116) (tb := fun W => tDrop (tMethS 621 "led" (spLed K) (WE W) (tVar 0) (tCons (tVar 1) (tCons (tVar 2) tNil)))) (ts := fun x cls d => tRet (tLikeAt cls d x 116 "at" 4 3 "BadList")) (Wout := fun _ _ _ _ => False) rfl rfl S.nd rfl rfl ⟨rfl, by decide, Or.inl T.g_BadList⟩ takes0N
        (fun W pn xe tk po => pss_one (ps_expr (pe_mtS c_led hr (by decide) (fun σ => passAtN tk σ) (pv 0) (pa_cons (pv 1) (pa_cons (pv 2) pa_nil)))))
        (fun x oe cls d pn hz hf => by
          have hc : L2H.HotC ((cxOf C8.CX0 P w K mg base ["_law_thing", "_law_row_here", "_law_body_y", "_law_due", "_law_e"] "_law_list_refused" (C8.fnScope (top 78)) 1018 cdv A outer s H E).nox.suite x ((x, oe) :: pn)) := ⟨(x, oe), ⟨rfl, hf.elim fun vs e => ⟨vs, e, hz.2.2 vs e⟩⟩, List.mem_cons_self⟩
          exact pss_one (ps_ret (L2H.pe_callH FL (roomHm (hr.mono (by decide)) _) hc rfl T.g_law_like T.f_law_like.kp bL (fun _ => pass0' _ _) (pa_cons (pe_lst (pa_cons (pe_xf T.x_BadList.xf T.x_BadList.noF hz.zc hf (pv 4)) (pa_cons (pe_xf T.x_BadList.xf T.x_BadList.noC hz.zc hf (pv 4)) pa_nil))) (pa_cons (pe_lst (pa_cons (pv 3) (pa_cons pe_str pa_nil))) pa_nil))))))
      (pss_one (ps_ret pe_bl)), ?_⟩
    obtain ⟨dx, cl, pl, ha, hcl, hpl⟩ := L.sw.ex
    walk_at "q"
    refine ⟨a, dx, _, rfl, ha, by rfl, ?_⟩
    walk_at "q"
    refine ⟨a, so, z, wd, cs, nv, bv, rfl, L, .inr (.inl ⟨at_, bad, fun d H1 hd s1 => ?_⟩)⟩
    refine ⟨true, T.x_BadList.te, fun _ x _ => ?_, fun q => Bool.noConfusion q⟩
    refine r_ret (r_callS ?_)
    walk_at "q"
    refine r_xf ?_
    walk_at "q"
    refine ⟨rfl, rfl, d, _, _, rfl, hd, rfl, ?_⟩
    refine r_xf ?_
    walk_at "q"
    refine ⟨rfl, rfl, d, _, _, rfl, hd, rfl, ?_⟩
    walk_at "q"
    refine ⟨(show (2 : Nat) ≤ sizeLine by decide), ?_⟩
    walk_at "nw"
    rename_i p3 np3 H3 s3 hp3
    walk_at "q"
    refine ⟨(show (2 : Nat) ≤ sizeLine by decide), ?_⟩
    walk_at "nw"
    rename_i p4 np4 H4 s4 hp4
    refine ⟨_, _, rfl, like_two (s4 _ _ hp3) hp4 (like_int _ _ _) (like_str _ _ _), fun H5 s5 => ?_⟩
    exact h _ (s1.trans (s3.trans (s4.trans s5)))
theorem ok_body_refused (T : Txt K mg) (c_led : MetX (L2N.CX P w) P w K mg base 5 621 "led" (spLed K)) : C8.Cal P w K mg base 8 "_law_body_refused" (spRefB K) [] := by
  obtain ⟨fdL, FL, bL⟩ := ok_likeH (P := P) (w := w) (base := base) T 2
  have S : FnScope ["_law_thing", "_law_row_here", "_law_wrong_here", "_law_e"] ["_law_thing", "_law_row_here", "_law_wrong_here"] (C8.fnScope (top 81)) := C8.fnScope_by (by decide +kernel)
  refine cal_of T.f_law_body_refused T.g_law_body_refused S (fun _ _ _ _ _ _ us hl => match us, hl with | [_, _, _], _ => rfl) (fun vs H Q E h => ?_) (fun cdv A outer s H vs Q E hr h => ?_)
  · obtain ⟨a, so, na, z, wd, cs, ns, kd, bv, rfl, _⟩ := h
    rfl
  · obtain ⟨a, so, na, z, wd, cs, ns, kd, bv, rfl, L, hn, hl, nb, lk, h⟩ := h
    refine ⟨_, pss_cons (L2N.ps_try_as (i := 3) (c := .ref 53) (tb := fun W => tDrop (tMethS 621 "led" (spLed K) (WE W) (tVar 0) (tCons (tVar 1) (tCons (tVar 2) tNil)))) (ts := fun x cls d => tRet (tLikeAt cls d x 53 "value" 3 2 "InvalidNumber")) (Wout := fun _ _ _ _ => False) rfl rfl S.nd rfl rfl ⟨rfl, by decide, Or.inl T.g_InvalidNumber⟩ takes0N
        (fun W pn xe tk po => pss_one (ps_expr (pe_mtS c_led hr (by decide) (fun σ => passAtN tk σ) (pv 0) (pa_cons (pv 1) (pa_cons (pv 2) pa_nil)))))
        (fun x oe cls d pn hz hf => by
          have hc : L2H.HotC ((cxOf C8.CX0 P w K mg base ["_law_thing", "_law_row_here", "_law_wrong_here", "_law_e"] "_law_body_refused" (C8.fnScope (top 79)) 1018 cdv A outer s H E).nox.suite x ((x, oe) :: pn)) := ⟨(x, oe), ⟨rfl, hf.elim fun vs e => ⟨vs, e, hz.2.2 vs e⟩⟩, List.mem_cons_self⟩
          exact pss_one (ps_ret (L2H.pe_callH FL (roomHm (hr.mono (by decide)) _) hc rfl T.g_law_like T.f_law_like.kp bL (fun _ => pass0' _ _) (pa_cons (pe_lst (pa_cons (pe_xf T.x_InvalidNumber.xf T.x_InvalidNumber.noF hz.zc hf (pv 3)) (pa_cons (pe_xf T.x_InvalidNumber.xf T.x_InvalidNumber.noC hz.zc hf (pv 3)) pa_nil))) (pa_cons (pe_lst (pa_cons (pv 2) (pa_cons pe_str pa_nil))) pa_nil))))))
      (pss_one (ps_ret pe_bl)), ?_⟩
    obtain ⟨dx, cl, pl, ha, hcl, hpl⟩ := L.sw.ex
    walk_at "q"
    refine ⟨a, dx, _, rfl, ha, by rfl, ?_⟩
    walk_at "q"
    refine ⟨a, so, z, wd, cs, _, bv, rfl, L, .inr (.inr ⟨na, ns, kd, rfl, hn, hl, nb, fun d H1 hd s1 => ?_⟩)⟩
    refine ⟨true, T.x_InvalidNumber.te, fun _ x _ => ?_, fun q => Bool.noConfusion q⟩
    refine r_ret (r_callS ?_)
    walk_at "q"
    refine r_xf ?_
    walk_at "q"
    refine ⟨rfl, rfl, d, _, _, rfl, hd, rfl, ?_⟩
    refine r_xf ?_
    walk_at "q"
    refine ⟨rfl, rfl, d, _, _, rfl, hd, rfl, ?_⟩
    walk_at "q"
    refine ⟨(show (2 : Nat) ≤ sizeLine by decide), ?_⟩
    walk_at "nw"
    rename_i p3 np3 H3 s3 hp3
    walk_at "q"
    refine ⟨(show (2 : Nat) ≤ sizeLine by decide), ?_⟩
    walk_at "nw"
    rename_i p4 np4 H4 s4 hp4
    refine ⟨_, _, rfl, like_two (s4 _ _ hp3) hp4 (lk.same (s1.trans (s3.trans s4))) (like_str _ _ _), fun H5 s5 => ?_⟩
    exact h _ (s1.trans (s3.trans (s4.trans s5)))
end
end K20

set_option Elab.async false
set_option linter.all false
set_option maxRecDepth 100000
set_option maxHeartbeats 4000000
namespace K20
open PySem PySem.Spec PyProof.Rows L2
local macro_rules | `(tactic| walk_at "q1") => `(tactic| first
  | with_reducible refine r_seq ?_ | with_reducible refine r_asg ?_ | with_reducible refine r_name ?_ | with_reducible refine r_ret ?_ | with_reducible refine r_ifS ?_ | with_reducible refine r_next ?_ | with_reducible refine r_drop ?_
  | ((with_reducible show tVar _ _ _ _); refine ⟨_, rfl, ?_⟩) | with_reducible refine r_c ?_ | with_reducible refine r_op ?_ | with_reducible refine r_un ?_ | with_reducible refine r_I0 ?_ | with_reducible refine r_U ?_
  | with_reducible refine r_eqI ?_ | with_reducible refine r_neI ?_ | with_reducible refine r_neB ?_ | with_reducible refine r_cb ?_ | with_reducible refine r_cons ?_ | with_reducible refine r_nil ?_ | with_reducible refine r_test ?_ | with_reducible refine r_tB ?_
  | with_reducible refine r_bl ?_ | with_reducible refine r_not ?_ | with_reducible refine r_notV ?_ | with_reducible refine r_and ?_ | with_reducible refine r_or ?_ | with_reducible refine r_andV ?_ | with_reducible refine r_orV ?_ | with_reducible refine r_if ?_
  | with_reducible refine r_T ?_ | with_reducible refine r_F ?_ | with_reducible refine r_NT ?_ | with_reducible refine r_NF ?_ | with_reducible refine r_call ?_ | with_reducible refine r_meth ?_ | with_reducible refine r_int1 ?_ | with_reducible refine r_fld ?_
  | with_reducible refine r_tup ?_ | with_reducible refine r_lst ?_ | with_reducible refine r_par ?_ | with_reducible refine r_par3 ?_ | with_reducible refine r_two ?_ | with_reducible refine r_three ?_ | with_reducible refine r_abs ?_ | with_reducible refine r_max ?_
  | with_reducible refine r_cut ?_ | with_reducible refine r_callS ?_ | with_reducible refine r_zipA ?_ | with_reducible refine r_isN ?_ | with_reducible refine r_lc ?_ | with_reducible refine r_lc2 ?_ | with_reducible refine r_mkB ?_ | with_reducible refine r_for ?_ | with_reducible refine r_iList ?_ | with_reducible refine r_iTup ?_ | with_reducible refine r_revL ?_ | with_reducible refine r_star ?_ | with_reducible refine r_bits ?_ | with_reducible refine r_iRng ?_ | with_reducible refine r_iEnum ?_ | with_reducible refine r_iZip ?_ | with_reducible refine r_sub ?_ | with_reducible refine r_sfld ?_ | with_reducible refine r_bm ?_
  | with_reducible refine r_methK ?_ | with_reducible refine r_methS ?_ | with_reducible refine r_make ?_ | with_reducible refine r_mod ?_ | with_reducible refine r_gtup ?_ | with_reducible refine r_gcons ?_ | with_reducible refine r_gnil ?_ | with_reducible refine r_slc ?_ | with_reducible refine r_part ?_ | with_reducible refine r_noPart ?_)
local macro_rules | `(tactic| walk_at "nw") => `(tactic| (intro p hp; generalize hu : upd _ p _ = H1; obtain ⟨s1, hp1⟩ := nwx hp hu; clear hu))
local macro_rules | `(tactic| walk_at "q") => `(tactic| repeat walk_at "q1")
section
variable {P : Program} {w : World} {K : Fr} {mg : Str → Option Value} {base : Heap}
theorem size_repA (a : Array Nat) : ∀ (n : Nat) (b : Array Nat), (List.foldl (fun x1 x2 => x1 ++ x2) b (List.replicate n a)).size = b.size + n * a.size
  | 0, b => by simp
  | n + 1, b => by
    rw [List.replicate_succ, List.foldl_cons, size_repA a n, Array.size_append, Nat.succ_mul]
    omega
theorem op_repS {X : Cx} {s0 : Str} (hs : s0.length = 1) : OpR X (binaryOp .Mult) (fun x y H Q => ∃ n : Int, x = .str s0 ∧ y = .int n ∧ 0 ≤ n ∧ n ≤ 1000 ∧ ∀ t, Q (.str t) H) := by
  intro pins s σ H x y v u Q I rx ry h
  obtain ⟨n, rfl, rfl, h0, h1, q⟩ := h
  obtain ⟨t, rfl⟩ := rx
  obtain ⟨t', rfl⟩ := ry
  refine P.mul_str ?_ (fun a b => ?_) (fun a b => ?_) ?_
  · rw [decide_eq_false (by omega), decide_eq_false (by omega)]; rfl
  · rw [hs]
    have : (1 : Int) ≤ 9223372036854775807 / n := by
      rw [Int.le_ediv_iff_mul_le (by omega)]
      omega
    simp
    omega
  · rw [hs]
    unfold Builtin.Str.tooLong
    exact decide_eq_false (by rw [sizeLine_eq]; omega)
  · split
    · exact ⟨by decide, .str _, _, I.tok _, ⟨_, rfl⟩, q _⟩
    · split
      · exact ⟨.str _, _, I, ⟨_, rfl⟩, q _⟩
      · refine ⟨?_, .str _, _, I.tok _, ⟨_, rfl⟩, q _⟩
        show (List.foldl (fun x1 x2 => x1 ++ x2) #[] (List.replicate n.toNat s0.cps)).size ≤ sizeLine
        rw [size_repA, show s0.cps.size = 1 from hs, sizeLine_eq]
        simp
        omega
/-! ### what the law's wrong values are -/
def Stg (x : V) (H : Hp) : Prop := x = .non ∨ (∃ b, x = .bl b) ∨ (∃ s, x = .str s) ∨ ∃ p, x = .ref p ∧ (H p = some (.tup [.int 1]) ∨ H p = some (.lst [.int 0]) ∨ H p = some (.lst [.int 1]) ∨ H p = some (.dK []) ∨ H p = some (.tup []))
theorem Stg.kp {x : V} {H H' : Hp} (h : Stg x H) (k : KpB H H') : Stg x H' := by
  rcases h with h | h | h | ⟨p, e, h⟩
  · exact .inl h
  · exact .inr (.inl h)
  · exact .inr (.inr (.inl h))
  · refine .inr (.inr (.inr ⟨p, e, ?_⟩))
    rcases h with h | h | h | h | h
    · exact .inl (k _ _ h rfl)
    · exact .inr (.inl (k _ _ h rfl))
    · exact .inr (.inr (.inl (k _ _ h rfl)))
    · exact .inr (.inr (.inr (.inl (k _ _ h rfl))))
    · exact .inr (.inr (.inr (.inr (k _ _ h rfl))))
theorem Stg.noInt {x : V} {H : Hp} (h : Stg x H) : NoInt K H x := by
  rcases h with rfl | ⟨b, rfl⟩ | ⟨s, rfl⟩ | ⟨p, rfl, h⟩
  · exact .inr ⟨_, .base .non, by decide +kernel⟩
  · exact .inl ⟨b, rfl⟩
  · exact .inr ⟨_, .base (.str s), by decide +kernel⟩
  · rcases h with h | h | h | h | h
    · exact .inr ⟨_, .base (.tup h), by decide +kernel⟩
    · exact .inr ⟨_, .base (.lst h), by decide +kernel⟩
    · exact .inr ⟨_, .base (.lst h), by decide +kernel⟩
    · exact .inr ⟨_, .base (.dK h), by decide +kernel⟩
    · exact .inr ⟨_, .base (.tup h), by decide +kernel⟩
theorem Stg.like {x : V} {H : Hp} (h : Stg x H) : Like 1 x x H := by
  rcases h with rfl | ⟨b, rfl⟩ | ⟨s, rfl⟩ | ⟨p, rfl, h⟩
  · exact .inl (.inr (.inl ⟨rfl, rfl⟩))
  · exact like_bl _ _ _
  · exact like_str _ _ _
  · have sqk : ∀ (kd : Bool) (ns : List Int), ns.length ≤ 1000 → H p = some (sq kd (ns.map V.int)) → Like 1 (.ref p) (.ref p) H := fun kd ns hl e => .inr ⟨p, p, kd, _, _, rfl, rfl, e, e, rfl, by rw [List.length_map]; exact hl, fun i u v h1 h2 => by
      rw [h1] at h2
      cases h2
      obtain ⟨x, _, rfl⟩ := lst_at h1
      exact like_int x H 0⟩
    rcases h with h | h | h | h | h
    · exact sqk false [1] (by decide) h
    · exact sqk true [0] (by decide) h
    · exact sqk true [1] (by decide) h
    · exact .inl (.inr (.inr ⟨p, [], rfl, rfl, h⟩))
    · exact sqk false [] (by decide) h
end
end K20

set_option Elab.async false
set_option linter.all false
set_option maxRecDepth 100000
set_option maxHeartbeats 4000000
namespace K20
open PySem PySem.Spec PyProof.Rows L2
local macro_rules | `(tactic| walk_at "q1") => `(tactic| first
  | with_reducible refine r_seq ?_ | with_reducible refine r_asg ?_ | with_reducible refine r_name ?_ | with_reducible refine r_ret ?_ | with_reducible refine r_ifS ?_ | with_reducible refine r_next ?_ | with_reducible refine r_drop ?_
  | ((with_reducible show tVar _ _ _ _); refine ⟨_, rfl, ?_⟩) | with_reducible refine r_c ?_ | with_reducible refine r_op ?_ | with_reducible refine r_un ?_ | with_reducible refine r_I0 ?_ | with_reducible refine r_U ?_
  | with_reducible refine r_eqI ?_ | with_reducible refine r_neI ?_ | with_reducible refine r_neB ?_ | with_reducible refine r_cb ?_ | with_reducible refine r_cons ?_ | with_reducible refine r_nil ?_ | with_reducible refine r_test ?_ | with_reducible refine r_tB ?_
  | with_reducible refine r_bl ?_ | with_reducible refine r_not ?_ | with_reducible refine r_notV ?_ | with_reducible refine r_and ?_ | with_reducible refine r_or ?_ | with_reducible refine r_andV ?_ | with_reducible refine r_orV ?_ | with_reducible refine r_if ?_
  | with_reducible refine r_T ?_ | with_reducible refine r_F ?_ | with_reducible refine r_NT ?_ | with_reducible refine r_NF ?_ | with_reducible refine r_call ?_ | with_reducible refine r_meth ?_ | with_reducible refine r_int1 ?_ | with_reducible refine r_fld ?_
  | with_reducible refine r_tup ?_ | with_reducible refine r_lst ?_ | with_reducible refine r_par ?_ | with_reducible refine r_par3 ?_ | with_reducible refine r_two ?_ | with_reducible refine r_three ?_ | with_reducible refine r_abs ?_ | with_reducible refine r_max ?_
  | with_reducible refine r_cut ?_ | with_reducible refine r_callS ?_ | with_reducible refine r_zipA ?_ | with_reducible refine r_isN ?_ | with_reducible refine r_lc ?_ | with_reducible refine r_lc2 ?_ | with_reducible refine r_mkB ?_ | with_reducible refine r_for ?_ | with_reducible refine r_iList ?_ | with_reducible refine r_iTup ?_ | with_reducible refine r_revL ?_ | with_reducible refine r_star ?_ | with_reducible refine r_bits ?_ | with_reducible refine r_iRng ?_ | with_reducible refine r_iEnum ?_ | with_reducible refine r_iZip ?_ | with_reducible refine r_sub ?_ | with_reducible refine r_sfld ?_ | with_reducible refine r_bm ?_
  | with_reducible refine r_methK ?_ | with_reducible refine r_methS ?_ | with_reducible refine r_make ?_ | with_reducible refine r_mod ?_ | with_reducible refine r_gtup ?_ | with_reducible refine r_gcons ?_ | with_reducible refine r_gnil ?_ | with_reducible refine r_slc ?_ | with_reducible refine r_part ?_ | with_reducible refine r_noPart ?_)
local macro_rules | `(tactic| walk_at "nw") => `(tactic| (intro p hp; generalize hu : upd _ p _ = H1; obtain ⟨s1, hp1⟩ := nwx hp hu; clear hu))
local macro_rules | `(tactic| walk_at "q") => `(tactic| repeat walk_at "q1")
section
variable {P : Program} {w : World} {K : Fr} {mg : Str → Option Value} {base : Heap}
/-! ### wrong rows and bodies -/
theorem CvAt.kpb {so : Addr} {c : Cov} {a : Addr} {H H' : Hp} (h : CvAt so c a H) (k : KpB H H') : CvAt so c a H' := let ⟨dx, mp, e, f⟩ := h; ⟨dx, mp, k _ _ e rfl, k _ _ f (isBag_intL _)⟩
theorem CvsAt.kpb {so : Addr} {cs : List Cov} {a : Addr} {H H' : Hp} (h : CvsAt so cs a H) (k : KpB H H') : CvsAt so cs a H' := let ⟨as, e, f, g⟩ := h; ⟨as, k _ _ e (isBag_refL _), f, fun i a c h1 h2 => (g i a c h1 h2).kpb k⟩
theorem SwAt.kpb {so : Addr} {z : Sz} {wd : Nat} {cs : List Cov} {a : Addr} {H H' : Hp} (h : SwAt so z cs wd a H) (k : KpB H H') : SwAt so z cs wd a H' := let ⟨⟨dx, cl, pl, e, f, g⟩, q⟩ := h; ⟨⟨dx, cl, pl, k _ _ e rfl, f.kpb k, k _ _ g (isBag_intL _)⟩, q.kp k⟩
theorem LedIn.kpb {a so : Addr} {z : Sz} {wd : Nat} {cs : List Cov} {H H' : Hp} (h : LedIn a so z wd cs H) (k : KpB H H') : LedIn a so z wd cs H' := ⟨h.ok, h.sw.kpb k, h.cok, h.len, h.w32⟩
def spWrong : Sp := fun vs H Q _ => ∃ (b c a so : Addr) (z : Sz) (wd : Nat) (cs : List Cov) (k : Nat), vs = [.ref b, .ref a, .int wd] ∧ k ≤ 600000 ∧ Bag b c k H ∧ LedIn a so z wd cs H ∧ ∀ H', Bag b c (k + 3000) H' → KpB H H' → Q (.bl true) H'
theorem r_dnew {σ : L2.St} {H : Hp} {Q : VK} (h : ∀ p, H p = none → Q (.ref p) (upd H p (.dK []))) : tDNewK σ H Q := h
theorem stg9 {x : V} {H : Hp} {p1 p2 p3 p4 : Addr} {s1 s2 : Str} (m : x ∈ [V.non, .bl true, .bl false, .str s1, .ref p1, .ref p2, .ref p3, .str s2, .ref p4]) (h1 : H p1 = some (.tup [.int 1])) (h2 : H p2 = some (.lst [.int 0])) (h3 : H p3 = some (.dK [])) (h4 : H p4 = some (.tup [])) : Stg x H := by
  simp only [List.mem_cons, List.not_mem_nil, or_false] at m
  rcases m with rfl | rfl | rfl | rfl | rfl | rfl | rfl | rfl | rfl
  · exact .inl rfl
  · exact .inr (.inl ⟨_, rfl⟩)
  · exact .inr (.inl ⟨_, rfl⟩)
  · exact .inr (.inr (.inl ⟨_, rfl⟩))
  · exact .inr (.inr (.inr ⟨_, rfl, .inl h1⟩))
  · exact .inr (.inr (.inr ⟨_, rfl, .inr (.inl h2)⟩))
  · exact .inr (.inr (.inr ⟨_, rfl, .inr (.inr (.inr (.inl h3)))⟩))
  · exact .inr (.inr (.inl ⟨_, rfl⟩))
  · exact .inr (.inr (.inr ⟨_, rfl, .inr (.inr (.inr (.inr h4)))⟩))
theorem noseq5 {x : V} {H : Hp} {p3 : Addr} {s1 : Str} {i : Int} {bb : Bool} (m : x ∈ [V.non, .str s1, .int i, .ref p3, .bl bb]) (h3 : H p3 = some (.dK [])) : ∃ t, TyX K H x (.type t) ∧ kitB t "list" = some false ∧ kitB t "tuple" = some false := by
  simp only [List.mem_cons, List.not_mem_nil, or_false] at m
  rcases m with rfl | rfl | rfl | rfl | rfl
  · exact ⟨_, .base .non, by decide +kernel, by decide +kernel⟩
  · exact ⟨_, .base (.str _), by decide +kernel, by decide +kernel⟩
  · exact ⟨_, .base (.int _), by decide +kernel, by decide +kernel⟩
  · exact ⟨_, .base (.dK h3), by decide +kernel, by decide +kernel⟩
  · exact ⟨_, .base (.bl _), by decide +kernel, by decide +kernel⟩
theorem cut_ne {xs : List V} (h : 0 < xs.length) : (cutV xs none (some (-1))).length ≠ xs.length := by
  rcases List.eq_nil_or_concat xs with rfl | ⟨ys, v, rfl⟩
  · simp at h
  · rw [List.concat_eq_append, cut_last]
    simp
theorem ok_wrong (T : Txt K mg) (c_law_draw : C8.Cal P w K mg base 1 "_law_draw" spDraw []) (c_law_of : C8.Cal P w K mg base 2 "_law_of" spOf []) (c_law_any : C8.Cal P w K mg base 3 "_law_any" spAny []) (c_law_list_refused : C8.Cal P w K mg base 8 "_law_list_refused" (spRefL K) [])
    (c_law_body_refused : C8.Cal P w K mg base 8 "_law_body_refused" (spRefB K) []) : C8.Cal P w K mg base 9 "_law_wrong" spWrong [] := by
  have S : FnScope ["_law_bag_here", "_law_thing", "_law_many", "_law_strange", "_law_body_y", "_law_row_here", "_law_way", "_law_spots", "_law_k"] ["_law_bag_here", "_law_thing", "_law_many"] (C8.fnScope (top 82)) := C8.fnScope_by (by decide +kernel)
  refine cal_of T.f_law_wrong T.g_law_wrong S (fun _ _ _ _ _ _ us hl => match us, hl with | [_, _, _], _ => rfl) (fun vs H Q E h => ?_) (fun cdv A outer s H vs Q E hr h => ?_)
  · obtain ⟨b, c, a, so, z, wd, cs, k, rfl, _⟩ := h
    rfl
  · obtain ⟨b, c, a, so, z, wd, cs, k, rfl, hk, hb, L, h⟩ := h
    have w32 := L.w32
    refine ⟨_, (pss_cons (ps_set (i := 3) S.nd rfl (Or.inl rfl) (C8.pe_c c_law_of hr (by decide) rfl (pa_cons (pv 0) (pa_cons (pe_lst (pa_cons pe_non (pa_cons pe_bl (pa_cons pe_bl (pa_cons pe_str (pa_cons (pe_tup (pa_cons pe_int pa_nil)) (pa_cons (pe_lst (pa_cons pe_int pa_nil)) (pa_cons pe_dnewK (pa_cons pe_str (pa_cons (pe_tup pa_nil) pa_nil)))))))))) pa_nil))))
      (pss_cons (ps_set (i := 4) S.nd rfl (Or.inl rfl) (C8.pe_c c_law_of hr (by decide) rfl (pa_cons (pv 0) (pa_cons (pe_lst (pa_cons pe_int (pa_cons (pv 3) pa_nil))) pa_nil))))
      (pss_cons (ps_par (i := 5) (j := 6) rfl S.nd rfl rfl (by decide) rfl rfl (pa_cons (pe_lc (own := [("_law_k", 8)]) rfl S.nd (pi_range1 rfl T.z_range (pa_cons (pv 2) pa_nil)) (blkOk_by (N := ["_law_bag_here", "_law_thing", "_law_many", "_law_strange", "_law_body_y", "_law_row_here", "_law_way", "_law_spots", "_law_k"]) (sc := C8.fnScope (top 82)) (by decide +kernel)) (fun _ _ _ _ _ => (pg_name (i := 8) S.nd rfl (Or.inl rfl))) (fun _ _ _ _ _ => pts_nil) (fun _ _ _ _ _ => (C8.pe_c c_law_any hr (by decide) rfl (pa_cons (pv 0) pa_nil)))) (pa_cons (C8.pe_c c_law_draw hr (by decide) rfl (pa_cons (pv 0) (pa_cons pe_int pa_nil))) pa_nil)) (by rfl))
      (pss_cons (ps_if (pt_cmpR op_eq (pv 6) pe_int (nomark _)) (pss_one (ps_ret (C8.pe_c c_law_list_refused hr (by decide) rfl (pa_cons (pv 1) (pa_cons (pe_op op_cat (pv 5) (pe_lst (pa_cons pe_int pa_nil))) (pa_cons (pv 4) (pa_cons (pe_un un_neg pe_int) pa_nil))))))) pss_nil)
      (pss_cons (ps_if (pt_cmpR op_eq (pv 6) pe_int (nomark _)) (pss_one (ps_ret (C8.pe_c c_law_list_refused hr (by decide) rfl (pa_cons (pv 1) (pa_cons (C8.pe_c c_law_of hr (by decide) rfl (pa_cons (pv 0) (pa_cons (pe_lst (pa_cons pe_non (pa_cons (pe_op (op_repS (s0 := "0") rfl) pe_str (pv 2)) (pa_cons pe_int (pa_cons pe_dnewK (pa_cons pe_bl pa_nil)))))) pa_nil))) (pa_cons (pv 4) (pa_cons (pe_un un_neg pe_int) pa_nil))))))) pss_nil)
      (pss_cons (ps_if (PW.pt (pw_or (pt_cmpR op_eq (pv 6) pe_int (nomark _)) (pw_or1 (pt_cmpR op_eq (pv 2) pe_int (nomark _))))) (pss_one (ps_ret (C8.pe_c c_law_body_refused hr (by decide) rfl (pa_cons (pv 1) (pa_cons (pv 5) (pa_cons (pv 3) pa_nil)))))) pss_nil)
      (pss_cons (ps_set (i := 7) S.nd rfl (Or.inl rfl) (pe_callB cr_sorted rfl T.z_sorted (by decide +kernel) (pa_cons (pe_lst (pa_cons (pe_callTy call_int1 rfl T.z_int (by decide +kernel) (pa_cons (C8.pe_c c_law_draw hr (by decide) rfl (pa_cons (pv 0) (pa_cons (pv 2) pa_nil))) pa_nil)) (pa_cons (pe_callTy call_int1 rfl T.z_int (by decide +kernel) (pa_cons (C8.pe_c c_law_draw hr (by decide) rfl (pa_cons (pv 0) (pa_cons (pv 2) pa_nil))) pa_nil)) pa_nil))) pa_nil)))
      (pss_cons (ps_asg (C8.pe_c c_law_of hr (by decide) rfl (pa_cons (pv 0) (pa_cons (pe_lst (pa_cons pe_non (pa_cons pe_str (pa_cons pe_bl (pa_cons (pe_lst (pa_cons pe_int pa_nil)) (pa_cons pe_dnewK pa_nil)))))) pa_nil))) (pg_sub (pv 5) (pe_ix (ix_listK (K := K) rfl) (pv 7) pe_int (fun _ _ => rfl)) set_list))
      (pss_cons (ps_asg (pv 3) (pg_sub (pv 5) (pe_ix (ix_listK (K := K) rfl) (pv 7) pe_int (fun _ _ => rfl)) set_list))
      (pss_cons (ps_if (pt_cmpR op_eq (pv 6) pe_int (nomark _)) (pss_one (ps_ret (C8.pe_c c_law_list_refused hr (by decide) rfl (pa_cons (pv 1) (pa_cons (pe_slice sl_list (pv 5) po_none (po_some (pe_un un_neg pe_int))) (pa_cons (pv 4) (pa_cons (pe_un un_neg pe_int) pa_nil))))))) pss_nil)
      (pss_one (ps_ret (C8.pe_c c_law_list_refused hr (by decide) rfl (pa_cons (pv 1) (pa_cons (pe_callTy call_tuple_of rfl T.z_tuple (by decide +kernel) (pa_cons (pv 5) pa_nil)) (pa_cons (pv 4) (pa_cons (pe_ix (ix_listK (K := K) rfl) (pv 7) pe_int (fun _ _ => rfl)) pa_nil))))))))))))))))), ?_⟩
    walk_at "q"
    refine ⟨(show (1 : Nat) ≤ sizeLine by decide), ?_⟩
    walk_at "nw"
    rename_i p1 np1 H1 s1 hp1
    walk_at "q"
    refine ⟨(show (1 : Nat) ≤ sizeLine by decide), ?_⟩
    walk_at "nw"
    rename_i p2 np2 H2 s2 hp2
    walk_at "q"
    refine r_dnew ?_
    walk_at "nw"
    rename_i p3 np3 H3 s3 hp3
    walk_at "q"
    refine ⟨(show (0 : Nat) ≤ sizeLine by decide), ?_⟩
    walk_at "nw"
    rename_i p4 np4 H4 s4 hp4
    walk_at "q"
    refine ⟨(show (9 : Nat) ≤ sizeLine by decide), ?_⟩
    walk_at "nw"
    rename_i p5 np5 H5 s5 hp5
    walk_at "q"
    have s15 : Same H H5 := s1.trans (s2.trans (s3.trans (s4.trans s5)))
    refine ⟨b, c, p5, _, k, rfl, hp5, rfl, by simp, by simp, by omega, hb.same s15, fun x H6 hx hb6 k6 => ?_⟩
    have sx : Stg x H6 := (stg9 hx (s5 _ _ (s4 _ _ (s3 _ _ (s2 _ _ hp1)))) (s5 _ _ (s4 _ _ (s3 _ _ hp2))) (s5 _ _ (s4 _ _ hp3)) (s5 _ _ hp4)).kp k6
    have q06 : KpB H H6 := (KpB.of s15).trans k6
    walk_at "q"
    refine ⟨(show (2 : Nat) ≤ sizeLine by decide), ?_⟩
    walk_at "nw"
    rename_i p7 np7 H7 s7 hp7
    walk_at "q"
    refine ⟨b, c, p7, _, k + 1, rfl, hp7, rfl, by simp, by simp, by omega, hb6.same s7, fun y H8 hy hb8 k8 => ?_⟩
    have q08 : KpB H H8 := q06.trans ((KpB.of s7).trans k8)
    have sx8 : Stg x H8 := sx.kp ((KpB.of s7).trans k8)
    walk_at "q"
    refine ⟨_, rfl, by omega, by omega, ?_⟩
    intro D hD
    have off := hb8.off hD
    refine lc_inv (walk_range (n := (wd : Int).toNat)) hD (fun i acc H' => ∃ ns : List Int, acc = ns.map V.int ∧ Bag b c (k + 2 + 61 * i) H' ∧ KpB H8 H') ⟨[], rfl, hb8, KpB.refl _⟩ (fun i acc H' o ⟨ns, e, g, kk⟩ => ⟨ns, e, g.upd off, kk.updN hD⟩) (fun _ _ _ _ => trivial) (by omega) ?_ ?_
    · rintro i acc v H9 H10 hi hla ⟨ns, rfl, g, kk⟩ hD2 ⟨rfl, rfl⟩ Kc kc
      walk_at "q"
      refine ⟨rfl, ?_⟩
      walk_at "q"
      refine ⟨b, c, _, rfl, by omega, g, fun x H6 g6 k6 => ?_⟩
      exact kc _ _ (k6 _ _ hD2 (isBag_intL ns)) ⟨ns ++ [x], by rw [List.map_append]; rfl, g6.mono (by omega), kk.trans k6⟩
    rintro acc H9 hla ⟨ns, rfl, g9, k9⟩ hD9
    rw [List.length_map] at hla
    have hl : ns.length = wd := by omega
    have q09 := q08.trans k9
    have hD9' : H9 D = some (intL ns) := hD9
    walk_at "q"
    refine ⟨b, c, _, _, rfl, by decide, by decide, by omega, g9, fun d H10 d0 d1 g10 k10 => ?_⟩
    have q0 : KpB H H10 := q09.trans k10
    have q8 := k9.trans k10
    have hD10 : H10 D = some (intL ns) := k10 _ _ hD9' (isBag_intL ns)
    have L10 := L.kpb q0
    have sx10 := sx8.kp q8
    walk_at "q"
    refine r_ite (fun e0 => ?_) fun e0 => ?_
    · walk_at "q"
      refine ⟨(show (1 : Nat) ≤ sizeLine by decide), ?_⟩
      walk_at "nw"
      rename_i pa npa H11 s11 hpa
      walk_at "q"
      refine ⟨D, pa, _, _, rfl, rfl, s11 _ _ hD10, hpa, Nat.le_trans (m := 1000) (by simp; omega) (by decide), fun r nr => ?_⟩
      generalize hu : upd H11 r _ = H12
      obtain ⟨s12, hr12⟩ := nwx nr hu
      clear hu
      have s1012 := s11.trans s12
      walk_at "q"
      try refine ⟨_, rfl, ?_⟩
      try walk_at "q"
      refine ⟨a, so, z, wd, cs, _, y, -1, rfl, L10.kpb (KpB.of s1012), .inr (.inl ⟨rfl, r, _, true, rfl, hr12, by simp; omega⟩), fun H13 s13 => h _ ((g10.same (s1012.trans s13)).mono (by omega)) (q0.trans (KpB.of (s1012.trans s13)))⟩
    walk_at "q"
    refine r_ite (fun e1 => ?_) fun e1 => ?_
    · walk_at "q"
      refine ⟨_, rfl, rfl, by omega, by omega, fun st => ?_⟩
      walk_at "q"
      refine r_dnew ?_
      walk_at "nw"
      rename_i pa npa H11 s11 hpa
      walk_at "q"
      refine ⟨(show (5 : Nat) ≤ sizeLine by decide), ?_⟩
      walk_at "nw"
      rename_i pb npb H12 s12 hpb
      walk_at "q"
      have s1012 := s11.trans s12
      refine ⟨b, c, pb, _, _, rfl, hpb, rfl, by simp, by simp, by omega, g10.same s1012, fun v H13 hv g13 k13 => ?_⟩
      have q1013 := (KpB.of s1012).trans k13
      walk_at "q"
      try refine ⟨_, rfl, ?_⟩
      try walk_at "q"
      refine ⟨a, so, z, wd, cs, v, y, -1, rfl, L10.kpb q1013, .inl ⟨rfl, noseq5 hv (k13 _ _ (s12 _ _ hpa) rfl)⟩, fun H14 s14 => h _ ((g13.same s14).mono (by omega)) ((q0.trans q1013).trans (KpB.of s14))⟩
    walk_at "q"
    have fin : ∀ H', Same H10 H' → Q (.bl true) H' := fun H' s' => h _ ((g10.same s').mono (by omega)) (q0.trans (KpB.of s'))
    refine r_ite (fun e2 => ?_) fun e2 => ?_
    · walk_at "q"
      exact ⟨a, so, D, z, wd, cs, ns, true, x, rfl, L10, hD10, hl, sx10.noInt, sx10.like, fin⟩
    walk_at "q"
    refine r_ite (fun e3 => ?_) fun e3 => ?_
    · walk_at "q"
      exact ⟨a, so, D, z, wd, cs, ns, true, x, rfl, L10, hD10, hl, sx10.noInt, sx10.like, fin⟩
    walk_at "q"
    have w0 : 0 < wd := by omega
    refine ⟨b, c, _, _, rfl, by omega, by omega, by omega, g10, fun u1 H11 u10 u11 g11 k11 => ?_⟩
    walk_at "q"
    refine .inl ⟨_, rfl, ?_⟩
    walk_at "q"
    refine ⟨b, c, _, _, rfl, by omega, by omega, by omega, g11, fun u2 H12 u20 u21 g12 k12 => ?_⟩
    walk_at "q"
    refine .inl ⟨_, rfl, ?_⟩
    walk_at "q"
    refine ⟨(show (2 : Nat) ≤ sizeLine by decide), ?_⟩
    walk_at "nw"
    rename_i p13 np13 H13 s13 hp13
    walk_at "q"
    refine ⟨p13, [u1, u2], rfl, SqL.of hp13, (show (2 : Nat) < 64 by decide), fun ss p14 perm pw np14 => ?_⟩
    obtain ⟨i0, i1, rfl, i01, i1w⟩ : ∃ i0 i1 : Nat, ss = [(i0 : Int), (i1 : Int)] ∧ i0 ≤ i1 ∧ i1 < wd := by
      have hlen := perm.length_eq
      match ss, hlen with
      | [v0, v1], _ =>
        have m0 : v0 ∈ [u1, u2] := perm.mem_iff.mp (by simp)
        have m1 : v1 ∈ [u1, u2] := perm.mem_iff.mp (by simp)
        have le : v0 ≤ v1 := (List.pairwise_cons.mp pw).1 v1 (by simp)
        simp only [List.mem_cons, List.not_mem_nil, or_false] at m0 m1
        exact ⟨v0.toNat, v1.toNat, by rw [Int.toNat_of_nonneg (by omega), Int.toNat_of_nonneg (by omega)], by omega, by omega⟩
    generalize hu : upd H13 p14 _ = H14
    obtain ⟨s14, hp14⟩ := nwx np14 hu
    clear hu
    walk_at "q"
    refine ⟨(show (1 : Nat) ≤ sizeLine by decide), ?_⟩
    walk_at "nw"
    rename_i p15 np15 H15 s15' hp15
    walk_at "q"
    refine r_dnew ?_
    walk_at "nw"
    rename_i p16 np16 H16 s16 hp16
    walk_at "q"
    refine ⟨(show (5 : Nat) ≤ sizeLine by decide), ?_⟩
    walk_at "nw"
    rename_i p17 np17 H17 s17 hp17
    walk_at "q"
    have s1217 : Same H12 H17 := s13.trans (s14.trans (s15'.trans (s16.trans s17)))
    refine ⟨b, c, p17, _, _, rfl, hp17, rfl, by simp, by simp, by omega, g12.same s1217, fun v H18 _ g18 k18 => ?_⟩
    have q1018 : KpB H10 H18 := k11.trans (k12.trans ((KpB.of s1217).trans k18))
    have hD18 := q1018 _ _ hD10 (isBag_intL ns)
    have hp18 := k18 _ _ (s17 _ _ (s16 _ _ (s15' _ _ hp14))) rfl
    have l1 : ns.length = (ns.map V.int).length := by simp
    have ixn : ∀ (xs : List V) (j : Nat), j < xs.length → ixN xs.length (j : Int) = some j := fun xs j hj => by unfold ixN; rw [if_pos (by omega), if_pos (by omega)]; simp
    walk_at "q"
    refine ⟨p14, _, 1, _, rfl, rfl, SqL.of hp18, rfl, ?_⟩
    refine ⟨D, _, _, i1, rfl, rfl, hD18, ixn _ _ (by simp; omega), ?_⟩
    have q818 : KpB H8 H18 := q8.trans q1018
    have q819 := q818.updN (o := .lst ((ns.map V.int).set i1 v)) hD
    have g19 := g18.upd (o := .lst ((ns.map V.int).set i1 v)) off
    have neD : p14 ≠ D := fun e => by
      rw [e] at hp18
      have := s14 D _ (s13 D _ ((k11.trans k12) _ _ hD10 (isBag_intL ns)))
      have e2 := s13 D _ ((k11.trans k12) _ _ hD10 (isBag_intL ns))
      rw [e, e2] at np14
      cases np14
    have hp19 : upd H18 D (.lst ((ns.map V.int).set i1 v)) p14 = some (.lst (List.map V.int [(i0 : Int), (i1 : Int)])) := by rw [upd_ne neD]; exact hp18
    have hD19 : upd H18 D (.lst ((ns.map V.int).set i1 v)) D = some (.lst ((ns.map V.int).set i1 v)) := upd_same
    generalize upd H18 D (.lst ((ns.map V.int).set i1 v)) = H19 at q819 g19 hp19 hD19 ⊢
    walk_at "q"
    refine ⟨p14, _, 0, _, rfl, rfl, SqL.of hp19, rfl, ?_⟩
    refine ⟨D, _, _, i0, rfl, rfl, hD19, ixn _ _ (by simp; omega), ?_⟩
    have q820 := q819.updN (o := .lst (((ns.map V.int).set i1 v).set i0 x)) hD
    have g20 := g19.upd (o := .lst (((ns.map V.int).set i1 v).set i0 x)) off
    have hp20 : upd H19 D (.lst (((ns.map V.int).set i1 v).set i0 x)) p14 = some (.lst (List.map V.int [(i0 : Int), (i1 : Int)])) := by rw [upd_ne neD]; exact hp19
    have hD20 : upd H19 D (.lst (((ns.map V.int).set i1 v).set i0 x)) D = some (.lst (((ns.map V.int).set i1 v).set i0 x)) := upd_same
    generalize upd H19 D (.lst (((ns.map V.int).set i1 v).set i0 x)) = H20 at q820 g20 hp20 hD20 ⊢
    have hxl : (((ns.map V.int).set i1 v).set i0 x).length = wd := by simp; omega
    have hx0 : (((ns.map V.int).set i1 v).set i0 x)[i0]? = some x := by
      rw [List.getElem?_set_self]
      simp
      omega
    have hxj : ∀ j, j < i0 → ∃ n : Int, (((ns.map V.int).set i1 v).set i0 x)[j]? = some (.int n) := fun j hj => by
      rw [List.getElem?_set_ne (by omega), List.getElem?_set_ne (by omega)]
      refine ⟨ns[j], ?_⟩
      rw [List.getElem?_map, List.getElem?_eq_getElem (by omega)]
      rfl
    have fin2 : ∀ H', Same H20 H' → Q (.bl true) H' := fun H' s' => h _ ((g20.same s').mono (by omega)) ((q08.trans q820).trans (KpB.of s'))
    have L20 := L.kpb (q08.trans q820)
    have sx20 := sx8.kp q820
    generalize ((ns.map V.int).set i1 v).set i0 x = xs at hxl hx0 hxj hD20
    walk_at "q"
    refine r_ite (fun e4 => ?_) fun e4 => ?_
    · walk_at "q"
      refine ⟨-1, rfl, D, xs, rfl, SqL.of hD20, fun r nr => ?_⟩
      generalize hu : upd H20 r _ = H21
      obtain ⟨s21, hr21⟩ := nwx nr hu
      clear hu
      walk_at "q"
      try refine ⟨_, rfl, ?_⟩
      try walk_at "q"
      exact ⟨a, so, z, wd, cs, _, y, -1, rfl, L20.kpb (KpB.of s21), .inr (.inl ⟨rfl, r, _, true, rfl, hr21, fun e => cut_ne (by omega) (e.trans hxl.symm)⟩), fun H' s' => fin2 _ (s21.trans s')⟩
    walk_at "q"
    refine ⟨D, _, rfl, .inl ⟨SqL.of hD20, fun r nr => ?_⟩⟩
    generalize hu : upd H20 r _ = H21
    obtain ⟨s21, hr21⟩ := nwx nr hu
    clear hu
    walk_at "q"
    refine ⟨p14, _, 0, _, rfl, rfl, SqL.of (s21 _ _ hp20), rfl, ?_⟩
    walk_at "q"
    exact ⟨a, so, z, wd, cs, _, y, _, rfl, L20.kpb (KpB.of s21), .inr (.inr ⟨r, xs, false, i0, x, rfl, hr21, hxl, rfl, hx0, (sx20.kp (KpB.of s21)).noInt, hxj⟩), fun H' s' => fin2 _ (s21.trans s')⟩
end
end K20

set_option Elab.async false
set_option linter.all false
set_option maxRecDepth 100000
set_option maxHeartbeats 4000000
namespace K20
/-! ### the law's led is the program's -/
def tab : Nat → (Nat → Int) → List Int
  | 0, _ => []
  | n + 1, u => u 0 :: tab n (fun t => u (t + 1))
theorem tab_len : ∀ n u, (tab n u).length = n
  | 0, _ => rfl
  | n + 1, u => by
    show (tab n _).length + 1 = n + 1
    rw [tab_len n]
theorem tab_at : ∀ n u t, t < n → (tab n u).getD t 0 = u t
  | n + 1, u, 0, _ => rfl
  | n + 1, u, t + 1, h => by
    show (tab n fun t => u (t + 1)).getD t 0 = u (t + 1)
    exact tab_at n _ t (by omega)
theorem tab_congr : ∀ n {u v : Nat → Int}, (∀ t, t < n → u t = v t) → tab n u = tab n v
  | 0, _, _, _ => rfl
  | n + 1, u, v, h => by
    show u 0 :: tab n _ = v 0 :: tab n _
    rw [h 0 (by omega), tab_congr n (u := fun t => u (t + 1)) (v := fun t => v (t + 1)) fun t ht => h (t + 1) (by omega)]
theorem tab_of : ∀ xs : List Int, tab xs.length (fun t => xs.getD t 0) = xs
  | [] => rfl
  | x :: xs => by
    show x :: tab xs.length (fun t => xs.getD t 0) = x :: xs
    rw [tab_of xs]
theorem tab_eq {xs : List Int} {n : Nat} {u : Nat → Int} (l : xs.length = n) (h : ∀ t, t < n → xs.getD t 0 = u t) : tab n u = xs := by
  subst l
  rw [← tab_of xs, tab_len]
  exact tab_congr _ fun t ht => (h t ht).symm
theorem tab_map (f : Int → Int) : ∀ n u, (tab n u).map f = tab n (fun t => f (u t))
  | 0, _ => rfl
  | n + 1, u => by
    show f (u 0) :: (tab n _).map f = f (u 0) :: tab n _
    rw [tab_map f n]
theorem tab_take : ∀ n u, (tab (n + 1) u).take n = tab n u
  | 0, _ => rfl
  | n + 1, u => by
    show u 0 :: (tab (n + 1) _).take n = u 0 :: tab n _
    rw [tab_take n]
theorem tab_mem : ∀ n u x, x ∈ tab n u → ∃ t, t < n ∧ x = u t
  | n + 1, u, x, h => by
    rcases List.mem_cons.mp (show x ∈ u 0 :: tab n _ from h) with q | q
    · exact ⟨0, by omega, q⟩
    · obtain ⟨t, ht, e⟩ := tab_mem n _ x q
      exact ⟨t + 1, by omega, e⟩
structure LinF (k : Nat) (φ : List Int → Int) : Prop where
  zero : φ (tab k fun _ => 0) = 0
  lin : ∀ (a : Int) (u v : Nat → Int), φ (tab k fun t => a * u t + v t) = a * φ (tab k u) + φ (tab k v)
theorem lin_pack (M : Int) : ∀ k, LinF k (packG M)
  | 0 => ⟨rfl, fun a u v => by simp [tab, packG]⟩
  | k + 1 => by
    have ih := lin_pack M k
    refine ⟨?_, fun a u v => ?_⟩
    · show 0 + M * packG M (tab k fun _ => 0) = 0
      rw [ih.zero]; omega
    · show (a * u 0 + v 0) + M * packG M (tab k fun t => a * u (t + 1) + v (t + 1)) = a * (u 0 + M * packG M (tab k fun t => u (t + 1))) + (v 0 + M * packG M (tab k fun t => v (t + 1)))
      rw [ih.lin a (fun t => u (t + 1)) (fun t => v (t + 1)), Int.mul_add, Int.mul_add, Int.mul_left_comm]
      omega
theorem dotZ_cons (a b : Int) (as bs : List Int) : dotZ (a :: as) (b :: bs) = a * b + dotZ as bs := by
  unfold dotZ
  rw [List.zipWith_cons_cons, List.sum_cons]
theorem dotZ_nil (bs : List Int) : dotZ [] bs = 0 := by simp [dotZ]
theorem dotZ_nil2 (bs : List Int) : dotZ bs [] = 0 := by simp [dotZ]
theorem lin_dot : ∀ bs : List Int, LinF bs.length (fun xs => dotZ xs bs)
  | [] => ⟨by simp [dotZ], fun a u v => by simp [dotZ]⟩
  | b :: bs => by
    have ih := lin_dot bs
    refine ⟨?_, fun a u v => ?_⟩
    · show dotZ (0 :: tab bs.length fun _ => 0) (b :: bs) = 0
      rw [dotZ_cons]
      have := ih.zero
      rw [this]; omega
    · show dotZ ((a * u 0 + v 0) :: tab bs.length fun t => a * u (t + 1) + v (t + 1)) (b :: bs) = a * dotZ (u 0 :: tab bs.length fun t => u (t + 1)) (b :: bs) + dotZ (v 0 :: tab bs.length fun t => v (t + 1)) (b :: bs)
      have := ih.lin a (fun t => u (t + 1)) (fun t => v (t + 1))
      rw [dotZ_cons, dotZ_cons, dotZ_cons, this, Int.mul_add, Int.add_mul, Int.mul_assoc]
      omega
theorem comb_lin {k : Nat} {φ : List Int → Int} (L : LinF k φ) (g : Cov → Nat → Int) : ∀ (fs : List Int) (cs : List Cov), φ (tab k fun t => dotZ fs (cs.map fun c => g c t)) = dotZ fs (cs.map fun c => φ (tab k (g c)))
  | [], cs => by
    rw [dotZ_nil]
    rw [show (fun t => dotZ [] (cs.map fun c => g c t)) = fun _ => 0 from funext fun t => dotZ_nil _]
    exact L.zero
  | f :: fs, [] => by
    rw [List.map_nil, dotZ_nil2]
    rw [show (fun t => dotZ (f :: fs) (([] : List Cov).map fun c => g c t)) = fun _ => 0 from funext fun t => dotZ_nil2 _]
    exact L.zero
  | f :: fs, c :: cs => by
    rw [List.map_cons, dotZ_cons, ← comb_lin L g fs cs, ← L.lin]
    refine congrArg φ (congrArg (tab k) (funext fun t => ?_))
    rw [List.map_cons, dotZ_cons]
theorem dotZ_append : ∀ (a a' b b' : List Int), a.length = b.length → dotZ (a ++ a') (b ++ b') = dotZ a b + dotZ a' b'
  | [], a', [], b', _ => by simp [dotZ_nil]
  | x :: xs, a', y :: ys, b', h => by
    rw [List.cons_append, List.cons_append, dotZ_cons, dotZ_cons, dotZ_append xs a' ys b' (by simpa using h)]
    omega
theorem mul_bd {f x A D : Int} (h1 : -A ≤ f) (h2 : f ≤ A) (h3 : -D ≤ x) (h4 : x ≤ D) : -(A * D) ≤ f * x ∧ f * x ≤ A * D := by
  have a0 : 0 ≤ A := by omega
  have d0 : 0 ≤ D := by omega
  have e1 : (f * x).natAbs ≤ A.natAbs * D.natAbs := by
    rw [Int.natAbs_mul]
    exact Nat.mul_le_mul (by omega) (by omega)
  have e2 : ((A.natAbs * D.natAbs : Nat) : Int) = A * D := by
    rw [Int.natCast_mul, Int.natAbs_of_nonneg a0, Int.natAbs_of_nonneg d0]
  omega
theorem dot_bd {A D : Int} (hA : 0 ≤ A) (hD : 0 ≤ D) : ∀ (fs xs : List Int), (∀ f ∈ fs, -A ≤ f ∧ f ≤ A) → (∀ x ∈ xs, -D ≤ x ∧ x ≤ D) → -(fs.length * (A * D)) ≤ dotZ fs xs ∧ dotZ fs xs ≤ fs.length * (A * D)
  | [], xs, _, _ => by rw [dotZ_nil]; simp
  | f :: fs, [], _, _ => by
    rw [dotZ_nil2]
    have : 0 ≤ ((f :: fs).length : Int) * (A * D) := Int.mul_nonneg (by omega) (Int.mul_nonneg hA hD)
    omega
  | f :: fs, x :: xs, h1, h2 => by
    have ih := dot_bd hA hD fs xs (fun f h => h1 f (List.mem_cons_of_mem _ h)) (fun f h => h2 f (List.mem_cons_of_mem _ h))
    obtain ⟨a1, a2⟩ := h1 f List.mem_cons_self
    obtain ⟨b1, b2⟩ := h2 x List.mem_cons_self
    have m := mul_bd a1 a2 b1 b2
    rw [dotZ_cons, List.length_cons, Int.natCast_add, Int.add_mul]
    omega
def rowAt (c : Cov) (t : Nat) : Int := (c.m ++ [c.y]).getD t 0
def gAt (z : Sz) (cs : List Cov) (ns : List Int) (t : Nat) : Int := dotZ (facs z ns) (cs.map fun c => rowAt c t)
theorem rowAt_bd {z : Sz} {c : Cov} (h : c.Ok z) (t : Nat) : 0 ≤ rowAt c t ∧ rowAt c t < z.q := by
  unfold rowAt
  have qp := z.qpos
  rw [List.getD_eq_getElem?_getD]
  cases e : (c.m ++ [c.y])[t]? with
  | none => exact ⟨by simp, by simpa using qp⟩
  | some x =>
    rcases List.mem_append.mp (List.mem_of_getElem? e) with q | q
    · exact h.mb x q
    · rw [List.mem_singleton.mp q]; exact h.yb
theorem gAt_bd {z : Sz} (o : z.Ok) {cs : List Cov} {ns : List Int} (ok : ∀ c ∈ cs, c.Ok z) (hn : ns.length ≤ 32) (t : Nat) : -(2 ^ (z.lane - 1) : Int) ≤ gAt z cs ns t ∧ gAt z cs ns t < 2 ^ (z.lane - 1) := by
  have hp := z.hpos
  have qp := z.qpos
  have l1 := o.l1
  have b := dot_bd (A := z.h) (D := z.q) (by omega) (by omega) (facs z ns) (cs.map fun c => rowAt c t) (fun f hf => by have := facs_bd o f hf; omega) (fun x hx => by
    obtain ⟨c, hc, rfl⟩ := List.mem_map.mp hx
    have := rowAt_bd (ok c hc) t
    omega)
  rw [facs_len] at b
  have hm : ((ns.length * z.l : Nat) : Int) * (z.h * z.q) ≤ z.most := by
    have e : z.most = 32 * z.l * (2 * z.h) * z.q := by unfold Sz.most; rw [Sz.B2 o]
    have h1 : ((ns.length * z.l : Nat) : Int) ≤ 32 * z.l := by
      have := Nat.mul_le_mul_right z.l hn
      omega
    have h2 : 0 ≤ z.h * z.q := Int.mul_nonneg (by omega) (by omega)
    have h3 : ((ns.length * z.l : Nat) : Int) * (z.h * z.q) ≤ 32 * z.l * (z.h * z.q) := Int.mul_le_mul_of_nonneg_right h1 h2
    have h4 : 32 * (z.l : Int) * (2 * z.h) * z.q = 2 * (32 * z.l * (z.h * z.q)) := by
      rw [Int.mul_left_comm (32 * (z.l : Int)) 2 z.h, Int.mul_assoc 2, Int.mul_assoc (32 * (z.l : Int))]
    have h5 : 0 ≤ 32 * (z.l : Int) * (z.h * z.q) := Int.mul_nonneg (by omega) h2
    omega
  have := (Sz.q_lane o).2
  unfold gAt
  omega
theorem ledRow_eq {z : Sz} (o : z.Ok) {cs : List Cov} {ns : List Int} (ok : ∀ c ∈ cs, c.Ok z) (hn : ns.length ≤ 32) : ledRow z cs ns = tab (z.n + 1) (gAt z cs ns) := by
  have e : ledTot z cs ns = packG (2 ^ z.lane) (tab (z.n + 1) (gAt z cs ns)) := by
    unfold gAt
    rw [comb_lin (lin_pack _ _) (fun c t => rowAt c t)]
    unfold ledTot lanes
    congr 1
    refine List.map_congr_left fun c hc => ?_
    congr 1
    exact (tab_eq (by rw [List.length_append, (ok c hc).len]; rfl) fun t _ => rfl).symm
  have l1 : 1 ≤ z.lane := by unfold Sz.lane; omega
  have hM : (2 : Int) ^ z.lane = 2 * 2 ^ (z.lane - 1) := by
    conv => lhs; rw [show z.lane = (z.lane - 1) + 1 by omega, Int.pow_succ]
    omega
  have h := unp_pack hM (pow_pos_int _) (tab (z.n + 1) (gAt z cs ns)) fun x hx => by
    obtain ⟨t, _, rfl⟩ := tab_mem _ _ _ hx
    exact gAt_bd o ok hn t
  rw [tab_len] at h
  unfold ledRow
  rw [e, h]
theorem ledOf_eq {z : Sz} (o : z.Ok) {cs : List Cov} {ns : List Int} (ok : ∀ c ∈ cs, c.Ok z) (hn : ns.length ≤ 32) (y : Int) : ledOf z cs ns y = ⟨tab z.n (fun t => (-(gAt z cs ns t)) % z.q), (y - gAt z cs ns z.n) % z.q⟩ := by
  unfold ledOf
  rw [ledRow_eq o ok hn, tab_take, tab_map, tab_at _ _ _ (by omega)]
end K20

set_option Elab.async false
set_option linter.all false
set_option maxRecDepth 100000
set_option maxHeartbeats 4000000
namespace K20
def stAt (A : List Int × Int) (t : Nat) : Int := (A.1 ++ [A.2]).getD t 0
theorem zwD_at (f : Int → Int → Int) : ∀ (a b : List Int) (t : Nat), a.length = b.length → t < a.length → (List.zipWith f a b).getD t 0 = f (a.getD t 0) (b.getD t 0)
  | x :: xs, y :: ys, 0, _, _ => rfl
  | x :: xs, y :: ys, t + 1, h, ht => by
    show (List.zipWith f xs ys).getD t 0 = f (xs.getD t 0) (ys.getD t 0)
    exact zwD_at f xs ys t (by simpa using h) (by simpa using ht)
theorem zw_snoc (f : Int → Int → Int) : ∀ (a b : List Int) (x y : Int), a.length = b.length → List.zipWith f a b ++ [f x y] = List.zipWith f (a ++ [x]) (b ++ [y])
  | [], [], _, _, _ => rfl
  | u :: us, v :: vs, x, y, h => by
    show f u v :: (List.zipWith f us vs ++ [f x y]) = f u v :: List.zipWith f (us ++ [x]) (vs ++ [y])
    rw [zw_snoc f us vs x y (by simpa using h)]
theorem stAt_acc {A : List Int × Int} {d : Int} {c : Cov} {n t : Nat} (h1 : A.1.length = n) (h2 : c.m.length = n) (ht : t ≤ n) : stAt (accS A d c) t = stAt A t - d * rowAt c t := by
  unfold stAt rowAt accS
  simp only
  rw [zw_snoc (fun a x => a - d * x) A.1 c.m A.2 c.y (by omega)]
  exact zwD_at _ _ _ _ (by simp [h1, h2]) (by simp [h1]; omega)
theorem take_succ_getD {α : Type} (xs : List α) (d : α) (i : Nat) (h : i < xs.length) : xs.take (i + 1) = xs.take i ++ [xs.getD i d] := by
  rw [List.take_add_one, List.getD_eq_getElem?_getD, List.getElem?_eq_getElem h]
  rfl
theorem dotZ_one (a b : Int) : dotZ [a] [b] = a * b := by
  rw [dotZ_cons, dotZ_nil]; omega
theorem stAt_I {ds : List Int} {cs : List Cov} {A : List Int × Int} {n t : Nat} (hA : A.1.length = n) (hc : ∀ c ∈ cs, c.m.length = n) (ht : t ≤ n) : ∀ i, i ≤ ds.length → i ≤ cs.length → stAt (ldI ds cs A i) t = stAt A t - dotZ (ds.take i) ((cs.take i).map fun c => rowAt c t)
  | 0, _, _ => by
    show stAt A t = _
    rw [List.take_zero, dotZ_nil]; omega
  | i + 1, h1, h2 => by
    have e : cs.getD i ⟨[], 0⟩ = cs[i] := by rw [List.getD_eq_getElem?_getD, List.getElem?_eq_getElem (by omega)]; rfl
    show stAt (accS (ldI ds cs A i) (ds.getD i 0) (cs.getD i ⟨[], 0⟩)) t = _
    rw [stAt_acc (n := n) (ldI_len hA hc i (by omega)) (by rw [e]; exact hc _ (List.getElem_mem _)) ht, stAt_I hA hc ht i (by omega) (by omega), take_succ_getD ds 0 i (by omega), take_succ_getD cs ⟨[], 0⟩ i (by omega), List.map_append,
      dotZ_append _ _ _ _ (by simp; omega), List.map_cons, List.map_nil, dotZ_one]
    omega
theorem stAt_J {z : Sz} {css : List (List Cov)} {ns : List Int} {y : Int} (L : LnOk z css ns.length) {t : Nat} (ht : t ≤ z.n) : ∀ j, j ≤ ns.length → stAt (ldJ z css ns y j) t = stAt (List.replicate z.n 0, y) t - dotZ (facs z (ns.take j)) ((css.take j).flatten.map fun c => rowAt c t)
  | 0, _ => by
    show stAt (List.replicate z.n 0, y) t = _
    rw [List.take_zero, List.take_zero, show facs z [] = [] from rfl, dotZ_nil]; omega
  | j + 1, h => by
    have hj : j < css.length := by rw [L.len]; omega
    have e : css.getD j [] = css[j] := by rw [List.getD_eq_getElem?_getD, List.getElem?_eq_getElem hj]; rfl
    have hl := L.ln _ (List.getElem_mem hj)
    have hn : ns[j]? = some (ns.getD j 0) := by rw [List.getD_eq_getElem?_getD, List.getElem?_eq_getElem (by omega)]; rfl
    have tl : ∀ i, i ≤ css.length → ((css.take i).flatten).length = i * z.l := by
      intro i
      induction i with
      | zero => intro _; simp
      | succ i ih =>
        intro hi
        rw [take_succ_getD css [] i (by omega), List.flatten_append, List.length_append, ih (by omega), Nat.succ_mul]
        have e : css.getD i [] = css[i] := by rw [List.getD_eq_getElem?_getD, List.getElem?_eq_getElem (by omega)]; rfl
        rw [e]
        have := L.ln _ (List.getElem_mem (show i < css.length by omega))
        simp [this]
    show stAt (ldI (digs z.B (ns.getD j 0 % z.q) z.l) (css.getD j []) (ldJ z css ns y j) z.l) t = _
    rw [e, stAt_I (n := z.n) (ldJ_len L j (by omega)) (fun c hc => (L.ok _ (List.getElem_mem hj) c hc).len) ht z.l (by rw [digs_length]; omega) (by rw [hl]; omega), stAt_J L ht j (by omega), facs_snoc z ns j _ hn, take_succ_getD css [] j hj, e,
      List.flatten_append, List.map_append, dotZ_append _ _ _ _ (by rw [facs_len, List.length_map, tl j (by omega), List.length_take, Nat.min_eq_left (by omega)])]
    have e1 : (digs z.B (ns.getD j 0 % z.q) z.l).take z.l = digs z.B (ns.getD j 0 % z.q) z.l := List.take_of_length_le (by rw [digs_length]; omega)
    have e2 : css[j].take z.l = css[j] := List.take_of_length_le (by omega)
    have e3 : [css[j]].flatten = css[j] := by simp
    rw [e1, e2, e3]
    omega
theorem getD_snoc_lt {xs : List Int} {x : Int} {t : Nat} (h : t < xs.length) : (xs ++ [x]).getD t 0 = xs.getD t 0 := by
  rw [List.getD_eq_getElem?_getD, List.getD_eq_getElem?_getD, List.getElem?_append_left h]
theorem getD_snoc_eq {xs : List Int} {x : Int} {t : Nat} (h : t = xs.length) : (xs ++ [x]).getD t 0 = x := by
  subst h
  rw [List.getD_eq_getElem?_getD, List.getElem?_append_right (Nat.le_refl _)]
  simp
theorem two_leds {z : Sz} (o : z.Ok) {css : List (List Cov)} {ns : List Int} {y : Int} (L : LnOk z css ns.length) (hn : ns.length ≤ 32) :
    (⟨(ldJ z css ns y ns.length).1.map (· % z.q), (ldJ z css ns y ns.length).2 % z.q⟩ : Cov) = ledOf z css.flatten ns y := by
  have ok : ∀ c ∈ css.flatten, c.Ok z := fun c hc => by
    obtain ⟨l, hl, hcl⟩ := List.mem_flatten.mp hc
    exact L.ok l hl c hcl
  rw [ledOf_eq o ok hn]
  have tk1 : ns.take ns.length = ns := List.take_length
  have tk2 : css.take ns.length = css := List.take_of_length_le (by rw [L.len]; omega)
  have hlen := ldJ_len (ns := ns) (y := y) L ns.length (Nat.le_refl _)
  have st : ∀ t, t ≤ z.n → stAt (ldJ z css ns y ns.length) t = stAt (List.replicate z.n 0, y) t - gAt z css.flatten ns t := fun t ht => by
    rw [stAt_J L ht ns.length (Nat.le_refl _), tk1, tk2]
    rfl
  have e1 : (ldJ z css ns y ns.length).1 = tab z.n (fun t => -(gAt z css.flatten ns t)) := by
    refine (tab_eq hlen fun t ht => ?_).symm
    have := st t (by omega)
    unfold stAt at this
    rw [getD_snoc_lt (by omega), getD_snoc_lt (by rw [List.length_replicate]; exact ht)] at this
    rw [this]
    have : (List.replicate z.n (0 : Int), y).1.getD t 0 = 0 := by
      show (List.replicate z.n (0 : Int)).getD t 0 = 0
      rw [List.getD_eq_getElem?_getD, List.getElem?_replicate]
      simp [ht]
    omega
  have e2 : (ldJ z css ns y ns.length).2 = y - gAt z css.flatten ns z.n := by
    have := st z.n (Nat.le_refl _)
    unfold stAt at this
    rw [getD_snoc_eq hlen.symm, getD_snoc_eq (by rw [List.length_replicate])] at this
    exact this
  rw [e1, e2, tab_map]
end K20

set_option Elab.async false
set_option linter.all false
set_option maxRecDepth 100000
set_option maxHeartbeats 4000000
namespace K20
def Cg (q a b : Int) : Prop := ∃ k, a = b + q * k
theorem Cg.refl (q a : Int) : Cg q a a := ⟨0, by omega⟩
theorem Cg.trans {q a b c : Int} (h : Cg q a b) (h' : Cg q b c) : Cg q a c := by
  obtain ⟨k, rfl⟩ := h
  obtain ⟨j, rfl⟩ := h'
  exact ⟨j + k, by rw [Int.mul_add]; omega⟩
theorem Cg.add {q a b c d : Int} (h : Cg q a b) (h' : Cg q c d) : Cg q (a + c) (b + d) := by
  obtain ⟨k, rfl⟩ := h
  obtain ⟨j, rfl⟩ := h'
  exact ⟨k + j, by rw [Int.mul_add]; omega⟩
theorem Cg.mul {q a b : Int} (c : Int) (h : Cg q a b) : Cg q (c * a) (c * b) := by
  obtain ⟨k, rfl⟩ := h
  exact ⟨c * k, by rw [Int.mul_add, Int.mul_left_comm]⟩
theorem Cg.sub {q a b c d : Int} (h : Cg q a b) (h' : Cg q c d) : Cg q (a - c) (b - d) := by
  obtain ⟨k, rfl⟩ := h
  obtain ⟨j, rfl⟩ := h'
  exact ⟨k - j, by rw [Int.mul_sub]; omega⟩
theorem Cg.mod (q a : Int) : Cg q (a % q) a := ⟨-(a / q), by
  have := Int.emod_add_mul_ediv a q
  rw [Int.mul_neg]; omega⟩
theorem Cg.mid (q x : Int) : Cg q (mid x q) x := by
  unfold K20.mid
  split
  · have := (Cg.mod q x).add (⟨-1, by omega⟩ : Cg q (-q) 0)
    rw [show x % q - q = x % q + -q by omega]
    simpa using this
  · exact Cg.mod q x
theorem mid_bd {q x b E : Int} (hq : 0 < q) (h : Cg q x b) (h1 : -E ≤ b) (h2 : b ≤ E) : -E ≤ mid x q ∧ mid x q ≤ E := by
  obtain ⟨k, hk⟩ := (Cg.mid q x).trans h
  have r0 := Int.emod_nonneg x (show q ≠ 0 by omega)
  have r1 := Int.emod_lt_of_pos x hq
  have lo : -q ≤ 2 * mid x q := by
    unfold K20.mid; split <;> omega
  have hi : 2 * mid x q < q := by
    unfold K20.mid; split <;> omega
  generalize mid x q = m at *
  by_cases k0 : k = 0
  · subst k0; omega
  · rcases Int.lt_or_gt_of_ne k0 with c | c
    · have : q * k ≤ q * (-1) := Int.mul_le_mul_of_nonneg_left (by omega) (by omega)
      omega
    · have : q * 1 ≤ q * k := Int.mul_le_mul_of_nonneg_left (by omega) (by omega)
      omega
theorem dot_cg {q : Int} : ∀ (bs : List Int) {u v : Nat → Int}, (∀ t, Cg q (u t) (v t)) → Cg q (dotZ (tab bs.length u) bs) (dotZ (tab bs.length v) bs)
  | [], u, v, h => Cg.refl _ _
  | b :: bs, u, v, h => by
    show Cg q (dotZ (u 0 :: tab bs.length fun t => u (t + 1)) (b :: bs)) (dotZ (v 0 :: tab bs.length fun t => v (t + 1)) (b :: bs))
    rw [dotZ_cons, dotZ_cons, Int.mul_comm (u 0), Int.mul_comm (v 0)]
    exact (h 0 |>.mul b).add (dot_cg bs fun t => h (t + 1))
theorem dot_neg (bs : List Int) (u : Nat → Int) : dotZ (tab bs.length fun t => -(u t)) bs = -dotZ (tab bs.length u) bs := by
  have h := (lin_dot bs).lin (-1) u (fun _ => 0)
  have z := (lin_dot bs).zero
  rw [z] at h
  rw [show (fun t => -(u t)) = fun t => -1 * u t + 0 from funext fun t => by omega, h]
  omega
theorem dot_sub (f g : Cov → Int) : ∀ (fs : List Int) (cs : List Cov), dotZ fs (cs.map f) - dotZ fs (cs.map g) = dotZ fs (cs.map fun c => f c - g c)
  | [], cs => by rw [dotZ_nil, dotZ_nil, dotZ_nil]; rfl
  | x :: fs, [] => by simp [dotZ_nil2]
  | x :: fs, c :: cs => by
    rw [List.map_cons, List.map_cons, List.map_cons, dotZ_cons, dotZ_cons, dotZ_cons, ← dot_sub f g fs cs, Int.mul_sub]
    omega
/-- what a cover errs by -/
def errC (bs : List Int) (c : Cov) : Int := c.y - dotZ c.m bs
theorem rowAt_n {z : Sz} {c : Cov} (h : c.Ok z) : rowAt c z.n = c.y := getD_snoc_eq h.len.symm
theorem tab_row {z : Sz} {c : Cov} (h : c.Ok z) : tab z.n (rowAt c) = c.m := tab_eq h.len fun t ht => by
  unfold rowAt
  rw [getD_snoc_lt (by rw [h.len]; exact ht)]
theorem led_phase {z : Sz} (o : z.Ok) {cs : List Cov} {ns bs : List Int} (ok : ∀ c ∈ cs, c.Ok z) (hn : ns.length ≤ 32) (hb : bs.length = z.n) (y : Int) :
    Cg z.q ((ledOf z cs ns y).y - dotZ (ledOf z cs ns y).m bs) (y - dotZ (facs z ns) (cs.map (errC bs))) := by
  rw [ledOf_eq o ok hn]
  show Cg z.q ((y - gAt z cs ns z.n) % z.q - dotZ (tab z.n fun t => (-(gAt z cs ns t)) % z.q) bs) _
  have h1 : Cg z.q (dotZ (tab z.n fun t => (-(gAt z cs ns t)) % z.q) bs) (-dotZ (facs z ns) (cs.map fun c => dotZ c.m bs)) := by
    have a := dot_cg (q := z.q) bs (u := fun t => (-(gAt z cs ns t)) % z.q) (v := fun t => -(gAt z cs ns t)) fun t => Cg.mod _ _
    rw [dot_neg] at a
    have b := comb_lin (lin_dot bs) (fun c t => rowAt c t) (facs z ns) cs
    rw [hb] at a b
    have e : (cs.map fun c => dotZ (tab z.n (rowAt c)) bs) = cs.map fun c => dotZ c.m bs := List.map_congr_left fun c hc => by rw [tab_row (ok c hc)]
    rw [← e]
    have b' : dotZ (tab z.n (gAt z cs ns)) bs = dotZ (facs z ns) (cs.map fun c => dotZ (tab z.n (rowAt c)) bs) := b
    rw [← b']
    exact a
  have h2 : gAt z cs ns z.n = dotZ (facs z ns) (cs.map fun c => c.y) := by
    unfold gAt
    congr 1
    exact List.map_congr_left fun c hc => rowAt_n (ok c hc)
  have h3 := dot_sub (fun c => c.y) (fun c => dotZ c.m bs) (facs z ns) cs
  have h4 := (Cg.mod z.q (y - gAt z cs ns z.n)).sub h1
  have h5 : (cs.map (errC bs)) = cs.map fun c => c.y - dotZ c.m bs := rfl
  rw [h5, ← h3]
  rw [h2] at h4 ⊢
  rw [show y - (dotZ (facs z ns) (cs.map fun c => c.y) - dotZ (facs z ns) (cs.map fun c => dotZ c.m bs)) = y - dotZ (facs z ns) (cs.map fun c => c.y) - -dotZ (facs z ns) (cs.map fun c => dotZ c.m bs) by omega]
  exact h4
theorem cover_err (z : Sz) (bs : List Int) (p : Pen) (r : Int) : ∃ e, -(z.e : Int) ≤ e ∧ e ≤ z.e ∧ Cg z.q (errC bs (coverOf z bs p r).1) (r + e) := by
  have nb := Pen.noise_bd (z := z) (p := (maskOf z p z.n).2)
  refine ⟨_, nb.1, nb.2, ?_⟩
  show Cg z.q ((dotZ (maskOf z p z.n).1 bs + r + ((maskOf z p z.n).2.noise z).1) % z.q - dotZ (maskOf z p z.n).1 bs) _
  have h := (Cg.mod z.q (dotZ (maskOf z p z.n).1 bs + r + ((maskOf z p z.n).2.noise z).1)).sub (Cg.refl z.q (dotZ (maskOf z p z.n).1 bs))
  rw [show dotZ (maskOf z p z.n).1 bs + r + ((maskOf z p z.n).2.noise z).1 - dotZ (maskOf z p z.n).1 bs = r + ((maskOf z p z.n).2.noise z).1 by omega] at h
  exact h
theorem line_err {z : Sz} (o : z.Ok) (bs : List Int) (t x : Int) (p : Pen) : ∀ i : Nat, ∃ E : Int, -((i : Int) * (z.h * z.e)) ≤ E ∧ E ≤ i * (z.h * z.e) ∧ Cg z.q (dotZ (digs z.B x i) ((lineOf z bs t p i).1.map (errC bs))) (t * val z.B (digs z.B x i) + E)
  | 0 => ⟨0, by simp, by simp, by
    show Cg z.q (dotZ [] _) (t * 0 + 0)
    rw [dotZ_nil]; exact ⟨0, by omega⟩⟩
  | i + 1 => by
    obtain ⟨E, e1, e2, e3⟩ := line_err o bs t x p i
    obtain ⟨e, n1, n2, n3⟩ := cover_err z bs (lineOf z bs t p i).2 (t * z.B ^ i)
    have db : -z.h ≤ dig z.B (leftAt z.B x i) ∧ dig z.B (leftAt z.B x i) < z.h := ⟨dig_lo (Sz.B2 o) z.hpos, dig_hi (Sz.B2 o) z.hpos⟩
    have mb := mul_bd (A := z.h) (D := (z.e : Int)) db.1 (by omega) n1 n2
    refine ⟨E + dig z.B (leftAt z.B x i) * e, ?_, ?_, ?_⟩
    · rw [Int.natCast_add, Int.add_mul]; omega
    · rw [Int.natCast_add, Int.add_mul]; omega
    · show Cg z.q (dotZ (digs z.B x i ++ [dig z.B (leftAt z.B x i)]) (((lineOf z bs t p i).1 ++ [(coverOf z bs (lineOf z bs t p i).2 (t * z.B ^ i)).1]).map (errC bs))) (t * val z.B (digs z.B x i ++ [dig z.B (leftAt z.B x i)]) + _)
      rw [List.map_append, dotZ_append _ _ _ _ (by rw [digs_length, List.length_map, lineOf_len]), List.map_cons, List.map_nil, dotZ_one, val_snoc, digs_length]
      have h := e3.add (n3.mul (dig z.B (leftAt z.B x i)))
      have e4 : t * (val z.B (digs z.B x i) + z.B ^ i * dig z.B (leftAt z.B x i)) = t * val z.B (digs z.B x i) + dig z.B (leftAt z.B x i) * (t * z.B ^ i) := by
        rw [Int.mul_add, ← Int.mul_assoc, Int.mul_comm (t * z.B ^ i)]
      rw [e4]
      rw [Int.mul_add] at h
      rw [show t * val z.B (digs z.B x i) + dig z.B (leftAt z.B x i) * (t * z.B ^ i) + (E + dig z.B (leftAt z.B x i) * e) = t * val z.B (digs z.B x i) + E + (dig z.B (leftAt z.B x i) * (t * z.B ^ i) + dig z.B (leftAt z.B x i) * e) by omega]
      exact h
theorem sw_err {z : Sz} (o : z.Ok) (bs ts ns : List Int) (p : Pen) (hl : ts.length = ns.length) : ∀ j : Nat, j ≤ ns.length → ∃ E : Int, -((j : Int) * (z.l * (z.h * z.e))) ≤ E ∧ E ≤ j * (z.l * (z.h * z.e)) ∧
    Cg z.q (dotZ (facs z (ns.take j)) ((swOf z bs ts p j).1.flatten.map (errC bs))) (dotZ (ns.take j) (ts.take j) + E)
  | 0, _ => ⟨0, by simp, by simp, by
    rw [List.take_zero, List.take_zero, show facs z [] = [] from rfl, dotZ_nil, dotZ_nil]; exact ⟨0, by omega⟩⟩
  | j + 1, h => by
    obtain ⟨E, e1, e2, e3⟩ := sw_err o bs ts ns p hl j (by omega)
    have hn : ns[j]? = some (ns.getD j 0) := by rw [List.getD_eq_getElem?_getD, List.getElem?_eq_getElem (by omega)]; rfl
    obtain ⟨F, f1, f2, f3⟩ := line_err o bs (ts.getD j 0) (ns.getD j 0 % z.q) (swOf z bs ts p j).2 z.l
    have dv := digs_val (Sz.B2 o) z.hpos (ns.getD j 0 % z.q) z.l
    have c1 : Cg z.q (ns.getD j 0) (val z.B (digs z.B (ns.getD j 0 % z.q) z.l)) := by
      have a : Cg z.q (ns.getD j 0 % z.q) (val z.B (digs z.B (ns.getD j 0 % z.q) z.l)) := ⟨leftAt z.B (ns.getD j 0 % z.q) z.l, dv⟩
      have b : Cg z.q (ns.getD j 0) (ns.getD j 0 % z.q) := ⟨ns.getD j 0 / z.q, by have := Int.emod_add_mul_ediv (ns.getD j 0) z.q; omega⟩
      exact b.trans a
    have c2 : Cg z.q (val z.B (digs z.B (ns.getD j 0 % z.q) z.l)) (ns.getD j 0) := by
      obtain ⟨k, hk⟩ := c1
      exact ⟨-k, by rw [Int.mul_neg]; omega⟩
    refine ⟨E + F, ?_, ?_, ?_⟩
    · rw [Int.natCast_add, Int.add_mul]; omega
    · rw [Int.natCast_add, Int.add_mul]; omega
    · show Cg z.q (dotZ (facs z (ns.take (j + 1))) (((swOf z bs ts p j).1 ++ [(lineOf z bs (ts.getD j 0) (swOf z bs ts p j).2 z.l).1]).flatten.map (errC bs))) _
      rw [facs_snoc z ns j _ hn, List.flatten_append, List.map_append, dotZ_append _ _ _ _ (by rw [facs_len, List.length_map, swOf_flat, List.length_take, Nat.min_eq_left (by omega)]), take_succ_getD ns 0 j (by omega), take_succ_getD ts 0 j (by omega),
        dotZ_append _ _ _ _ (by simp; omega), dotZ_one]
      have e5 : ([(lineOf z bs (ts.getD j 0) (swOf z bs ts p j).2 z.l).1].flatten) = (lineOf z bs (ts.getD j 0) (swOf z bs ts p j).2 z.l).1 := by simp
      rw [e5]
      have g := e3.add (f3.trans ((c2.mul (ts.getD j 0)).add (Cg.refl _ F)))
      rw [Int.mul_comm (ns.getD j 0)]
      rw [show dotZ (ns.take j) (ts.take j) + ts.getD j 0 * ns.getD j 0 + (E + F) = dotZ (ns.take j) (ts.take j) + E + (ts.getD j 0 * ns.getD j 0 + F) by omega]
      exact g
theorem phase_bd {z : Sz} (o : z.Ok) {bs ts ns : List Int} {p : Pen} (hb : bs.length = z.n) (hl : ts.length = ns.length) (hn : ns.length ≤ 32) (y : Int) :
    -((ns.length : Int) * z.l * z.h * z.e) ≤ mid (mid ((ledOf z (swOf z bs ts p ns.length).1.flatten ns y).y - dotZ (ledOf z (swOf z bs ts p ns.length).1.flatten ns y).m bs) z.q - y + dotZ ns ts) z.q ∧
    mid (mid ((ledOf z (swOf z bs ts p ns.length).1.flatten ns y).y - dotZ (ledOf z (swOf z bs ts p ns.length).1.flatten ns y).m bs) z.q - y + dotZ ns ts) z.q ≤ (ns.length : Int) * z.l * z.h * z.e := by
  have h1 := led_phase o (cs := (swOf z bs ts p ns.length).1.flatten) (ns := ns) (bs := bs) (fun c hc => swOf_ok _ c hc) hn hb y
  obtain ⟨E, e1, e2, e3⟩ := sw_err o bs ts ns p hl ns.length (Nat.le_refl _)
  rw [List.take_length, show ts.take ns.length = ts from List.take_of_length_le (by omega)] at e3
  have h2 := (Cg.mid z.q _).trans h1
  generalize mid ((ledOf z (swOf z bs ts p ns.length).1.flatten ns y).y - dotZ (ledOf z (swOf z bs ts p ns.length).1.flatten ns y).m bs) z.q = m at h2 ⊢
  have e4 : (ns.length : Int) * z.l * z.h * z.e = ns.length * (z.l * (z.h * z.e)) := by rw [Int.mul_assoc, Int.mul_assoc]
  rw [e4]
  generalize dotZ (facs z ns) ((swOf z bs ts p ns.length).1.flatten.map (errC bs)) = S at *
  refine mid_bd (b := -E) z.qpos ?_ (by omega) (by omega)
  have h3 := ((h2.sub (Cg.refl _ y)).add (Cg.refl _ (dotZ ns ts)))
  have h4 : Cg z.q (y - S - y + dotZ ns ts) (-E) := by
    obtain ⟨k, hk⟩ := e3
    exact ⟨-k, by rw [hk, Int.mul_neg]; omega⟩
  exact h3.trans h4
end K20

set_option Elab.async false
set_option linter.all false
set_option maxRecDepth 100000
set_option maxHeartbeats 4000000
namespace K20
open PySem PySem.Spec PyProof.Rows L2
local macro_rules | `(tactic| walk_at "q1") => `(tactic| first
  | with_reducible refine r_seq ?_ | with_reducible refine r_asg ?_ | with_reducible refine r_name ?_ | with_reducible refine r_ret ?_ | with_reducible refine r_ifS ?_ | with_reducible refine r_next ?_ | with_reducible refine r_drop ?_
  | ((with_reducible show tVar _ _ _ _); refine ⟨_, rfl, ?_⟩) | with_reducible refine r_c ?_ | with_reducible refine r_op ?_ | with_reducible refine r_un ?_ | with_reducible refine r_I0 ?_ | with_reducible refine r_U ?_
  | with_reducible refine r_eqI ?_ | with_reducible refine r_neI ?_ | with_reducible refine r_neB ?_ | with_reducible refine r_cb ?_ | with_reducible refine r_cons ?_ | with_reducible refine r_nil ?_ | with_reducible refine r_test ?_ | with_reducible refine r_tB ?_
  | with_reducible refine r_bl ?_ | with_reducible refine r_not ?_ | with_reducible refine r_notV ?_ | with_reducible refine r_and ?_ | with_reducible refine r_or ?_ | with_reducible refine r_andV ?_ | with_reducible refine r_orV ?_ | with_reducible refine r_if ?_
  | with_reducible refine r_T ?_ | with_reducible refine r_F ?_ | with_reducible refine r_NT ?_ | with_reducible refine r_NF ?_ | with_reducible refine r_call ?_ | with_reducible refine r_meth ?_ | with_reducible refine r_int1 ?_ | with_reducible refine r_fld ?_
  | with_reducible refine r_tup ?_ | with_reducible refine r_lst ?_ | with_reducible refine r_par ?_ | with_reducible refine r_par3 ?_ | with_reducible refine r_two ?_ | with_reducible refine r_three ?_ | with_reducible refine r_abs ?_ | with_reducible refine r_max ?_
  | with_reducible refine r_cut ?_ | with_reducible refine r_callS ?_ | with_reducible refine r_zipA ?_ | with_reducible refine r_isN ?_ | with_reducible refine r_lc ?_ | with_reducible refine r_lc2 ?_ | with_reducible refine r_mkB ?_ | with_reducible refine r_for ?_ | with_reducible refine r_iList ?_ | with_reducible refine r_iTup ?_ | with_reducible refine r_revL ?_ | with_reducible refine r_star ?_ | with_reducible refine r_bits ?_ | with_reducible refine r_iRng ?_ | with_reducible refine r_iEnum ?_ | with_reducible refine r_iZip ?_ | with_reducible refine r_sub ?_ | with_reducible refine r_sfld ?_ | with_reducible refine r_bm ?_
  | with_reducible refine r_methK ?_ | with_reducible refine r_methS ?_ | with_reducible refine r_make ?_ | with_reducible refine r_mod ?_ | with_reducible refine r_gtup ?_ | with_reducible refine r_gcons ?_ | with_reducible refine r_gnil ?_ | with_reducible refine r_slc ?_ | with_reducible refine r_part ?_ | with_reducible refine r_noPart ?_)
local macro_rules | `(tactic| walk_at "nw") => `(tactic| (intro p hp; generalize hu : upd _ p _ = H1; obtain ⟨s1, hp1⟩ := nwx hp hu; clear hu))
local macro_rules | `(tactic| walk_at "q") => `(tactic| repeat walk_at "q1")
section
variable {P : Program} {w : World} {K : Fr} {mg : Str → Option Value} {base : Heap}
/-! ### the law's own judgement of led -/
theorem passF {X : Cx} (σ : L2.St) : PassesAt (L2N.CX X.prog X.w) X σ (fun _ _ _ => False) := fun _ _ _ _ _ _ h => by
  obtain ⟨_, _, _, _, _, _, _, _, _, _, _, _, z⟩ := h
  exact z.elim
theorem vals_rev : ∀ {vs : List V} {us : List Value}, Vals vs us → Vals vs.reverse us.reverse
  | _, _, .nil => .nil
  | _, _, .cons r t => by
    rw [List.reverse_cons, List.reverse_cons]
    exact vals_app (vals_rev t) (.cons r .nil)
abbrev revV : List V → List V → List V := fun a b => a ++ b.reverse
theorem led_calls (T : Txt K mg) (c_led : ∃ fd kV doc pm an ct, FnOk P w K mg base (L2N.CX P w) 5 604 fd ["self", "numbers", "body"] (spLed K) ∧ fd = PySem.W.fnOf "led" "Switch.led" (C8.fnArgs (meth 43 2)) (C8.fnBody (meth 43 2)) (C8.fnScope (meth 43 2)) .none kV doc pm an (.ref 603) ct) :
    MetX (L2N.CX P w) P w K mg base 5 621 "led" (spLed K) ∧ MetK (L2N.CX P w) P w K mg base 5 621 "led" (spLed K) 0 ["body", "numbers"] revV := by
  obtain ⟨fd, kV, doc, pm, an, ct, F, rfl⟩ := c_led
  exact ⟨⟨604, _, _, T.c_Switch, T.m_Switch_led, F, .all fun us hl => match us, hl with | [_, _, _], _ => rfl⟩,
    ⟨604, _, _, fun us ws => us ++ ws.reverse, T.c_Switch, T.m_Switch_led, F, KBn.all (fun us ws h1 h2 => match us, ws, h1, h2 with | [_], [_, _], _, _ => rfl) fun a b => vals_app a (vals_rev b)⟩⟩
theorem OcAt.kpb {c : Cov} {a : Addr} {H H' : Hp} (h : OcAt c a H) (k : KpB H H') : OcAt c a H' := let ⟨m, e, f⟩ := h; ⟨m, k _ _ e rfl, k _ _ f (isBag_intL _)⟩
theorem OlAt.kpb {cs : List Cov} {a : Addr} {H H' : Hp} (h : OlAt cs a H) (k : KpB H H') : OlAt cs a H' := let ⟨as, e, f, g⟩ := h; ⟨as, k _ _ e (isBag_refL _), f, fun i x c h1 h2 => (g i x c h1 h2).kpb k⟩
theorem OsAt.kpb {css : List (List Cov)} {a : Addr} {H H' : Hp} (h : OsAt css a H) (k : KpB H H') : OsAt css a H' := let ⟨ls, e, f, g, q⟩ := h; ⟨ls, k _ _ e (isBag_refL _), f, fun i x c h1 h2 => (g i x c h1 h2).kpb k, q⟩
theorem KeyAt.kpb {so : Addr} {z : Sz} {bs : List Int} {a : Addr} {H H' : Hp} (h : KeyAt so z bs a H) (k : KpB H H') : KeyAt so z bs a H' := let ⟨⟨dx, bl, pb, pp, e, f⟩, q⟩ := h; ⟨⟨dx, bl, pb, pp, k _ _ e rfl, k _ _ f (isBag_intL _)⟩, q.kp k⟩
theorem swOf_ln {z : Sz} {bs ts : List Int} {p : Pen} : ∀ n, ∀ cs ∈ (swOf z bs ts p n).1, cs.length = z.l
  | 0, c, h => by cases h
  | n + 1, c, h => by
    rcases List.mem_append.mp (show c ∈ (swOf z bs ts p n).1 ++ [_] from h) with q | q
    · exact swOf_ln n c q
    · rw [List.mem_singleton.mp q]
      exact lineOf_len _
theorem swOf_LnOk {z : Sz} {bs ts : List Int} {p : Pen} (n : Nat) : LnOk z (swOf z bs ts p n).1 n := ⟨swOf_len n, swOf_ln n, fun cs hcs c hc => swOf_ok n c (List.mem_flatten.mpr ⟨cs, hcs, hc⟩)⟩
theorem use_if {t : TE} {σ : L2.St} {H : Hp} {Q : VK} (I : V → Hp → Prop) (h1 : ∀ Qc : VK, (∀ v H', I v H' → Qc v H') → t σ H Qc) (h2 : ∀ v H', I v H' → Q v H') : t σ H Q := h1 Q h2
structure Fits (b c ky sw osw bt sa t so : Addr) (z : Sz) (bs ts : List Int) (p : Pen) (k : Nat) (H : Hp) : Prop where
  o : z.Ok
  tz : TzAt z t H
  bag : Bag b c k H
  key : KeyAt so z bs ky H
  bb : ∀ x ∈ bs, 0 ≤ x ∧ x ≤ 1
  bl : bs.length = z.n
  sa_ : H sa = some (intL bs)
  bt_ : H bt = some (intL ts)
  tb : ∀ x ∈ ts, 0 ≤ x ∧ x ≤ 1
  t32 : ts.length ≤ 32
  sw_ : SwAt so z (swOf z bs ts p ts.length).1.flatten ts.length sw H
  os : OsAt (swOf z bs ts p ts.length).1 osw H
theorem Fits.kpb {b c ky sw osw bt sa t so : Addr} {z : Sz} {bs ts : List Int} {p : Pen} {k k' : Nat} {H H' : Hp} (h : Fits b c ky sw osw bt sa t so z bs ts p k H) (q : KpB H H') (g : Bag b c k' H') : Fits b c ky sw osw bt sa t so z bs ts p k' H' :=
  ⟨h.o, q _ _ h.tz rfl, g, h.key.kpb q, h.bb, h.bl, q _ _ h.sa_ (isBag_intL _), q _ _ h.bt_ (isBag_intL _), h.tb, h.t32, h.sw_.kpb q, h.os.kpb q⟩
theorem Fits.led {b c ky sw osw bt sa t so : Addr} {z : Sz} {bs ts : List Int} {p : Pen} {k : Nat} {H : Hp} (h : Fits b c ky sw osw bt sa t so z bs ts p k H) : LedIn sw so z ts.length (swOf z bs ts p ts.length).1.flatten H :=
  ⟨h.o, h.sw_, swOf_ok _, swOf_flat _, h.t32⟩
def spFits : Sp := fun vs H Q _ => ∃ (b c ky sw osw bt sa t so : Addr) (z : Sz) (bs ts : List Int) (p : Pen) (k : Nat), vs = [.ref b, .ref ky, .ref sw, .ref osw, .ref bt, .ref sa, .ref t] ∧ k ≤ 600000 ∧ Fits b c ky sw osw bt sa t so z bs ts p k H ∧ ∀ H', Bag b c (k + 9000) H' → KpB H H' → Q (.bl true) H'
theorem ok_lead_fits (T : Txt K mg) (c_led : MetX (L2N.CX P w) P w K mg base 5 621 "led" (spLed K)) (c_ledK : MetK (L2N.CX P w) P w K mg base 5 621 "led" (spLed K) 0 ["body", "numbers"] revV)
    (c_law_row : C8.Cal P w K mg base 4 "_law_row" spRow []) (c_law_draw : C8.Cal P w K mg base 1 "_law_draw" spDraw []) (c_law_any : C8.Cal P w K mg base 3 "_law_any" spAny []) (c_law_spot : C8.Cal P w K mg base 3 "_law_spot" spSpot [])
    (c_law_own_led : C8.Cal P w K mg base 2 "_law_own_led" spOwnLed []) (c_law_cover_is : C8.Cal P w K mg base 4 "_law_cover_is" spCovIs []) (c_law_size_of : C8.Cal P w K mg base 5 "_law_size_of" spSizeOf []) (c_law_like : C8.Cal P w K mg base 3 "_law_like" (spLike 2) [])
    (c_phase : C8.Met P w K mg base 4 863 "phase" spPhase []) (c_law_phase : C8.Cal P w K mg base 2 "_law_phase" spLPhase []) (c_law_mid : C8.Cal P w K mg base 1 "_law_mid" spMid []) : C8.Cal P w K mg base 6 "_law_lead_fits" spFits [] := by
  have S : FnScope ["_law_bag_here", "_law_key_y", "_law_thing", "_law_due_sw", "_law_bits_y", "_law_s", "_law_sz", "_law_q", "_law_many", "_law_row_here", "_law_body_y", "_law_given", "_law_way", "_law_told", "_law_due", "_law_found", "_law_off", "_law_x", "_law_t"] ["_law_bag_here", "_law_key_y", "_law_thing", "_law_due_sw", "_law_bits_y", "_law_s", "_law_sz"] (C8.fnScope (top 79)) := C8.fnScope_by (by decide +kernel)
  refine cal_of T.f_law_lead_fits T.g_law_lead_fits S (fun _ _ _ _ _ _ us hl => match us, hl with | [_, _, _, _, _, _, _], _ => rfl) (fun vs H Q E h => ?_) (fun cdv A outer s H vs Q E hr h => ?_)
  · obtain ⟨b, c, ky, sw, osw, bt, sa, t, so, z, bs, ts, p, k, rfl, _⟩ := h
    rfl
  · obtain ⟨b, c, ky, sw, osw, bt, sa, t, so, z, bs, ts, p, k, rfl, hk, F, h⟩ := h
    have o := F.o
    have t32 := F.t32
    have tz (H' : Hp) (q : KpB H H') : H' t = some (.tup [.int z.n, .int z.m, .int z.B, .int z.l, .int z.e, .int z.q]) := q _ _ F.tz rfl
    have tz0 := tz H (KpB.refl _)
    refine ⟨_, (pss_cons (ps_par (i := 7) (j := 8) rfl S.nd rfl rfl (by decide) rfl rfl (pa_cons (pe_ix (ix_tupK (K := K) rfl) (pv 6) pe_int (fun _ _ => rfl)) (pa_cons (pe_callB call_len_seq rfl T.z_len (by decide +kernel) (pa_cons (pv 4) pa_nil)) pa_nil)) (by rfl))
      (pss_cons (ps_set (i := 9) S.nd rfl (Or.inl rfl) (C8.pe_c c_law_row hr (by decide) rfl (pa_cons (pv 0) (pa_cons (pv 8) (pa_cons (pv 7) pa_nil)))))
      (pss_cons (ps_par (i := 10) (j := 11) rfl S.nd rfl rfl (by decide) rfl rfl (pa_cons (pe_ifExp (pt_cmpR op_eq (C8.pe_c c_law_draw hr (by decide) rfl (pa_cons (pv 0) (pa_cons pe_int pa_nil))) pe_int (nomark _)) (C8.pe_c c_law_any hr (by decide) rfl (pa_cons (pv 0) pa_nil)) (C8.pe_c c_law_spot hr (by decide) rfl (pa_cons (pv 0) (pa_cons (pv 7) pa_nil)))) (pa_cons (pe_callTy call_list_of rfl T.z_list (by decide +kernel) (pa_cons (pv 9) pa_nil)) pa_nil)) (by rfl))
      (pss_cons (ps_set (i := 12) S.nd rfl (Or.inl rfl) (C8.pe_c c_law_draw hr (by decide) rfl (pa_cons (pv 0) (pa_cons pe_int pa_nil))))
      (C8.pss_cut (ps_if (pt_cmpR op_eq (pv 12) pe_int (nomark _)) (pss_one (ps_set (i := 13) S.nd rfl (Or.inl rfl) (pe_mtS c_led hr (by decide) (fun σ => passF σ) (pv 2) (pa_cons (pe_callTy call_tuple_of rfl T.z_tuple (by decide +kernel) (pa_cons (pv 11) pa_nil)) (pa_cons (pv 10) pa_nil))))) (pss_one (ps_if (pt_cmpR op_eq (pv 12) pe_int (nomark _)) (pss_one (ps_set (i := 13) S.nd rfl (Or.inl rfl) (pe_mtS c_led hr (by decide) (fun σ => passF σ) (pv 2) (pa_cons (pv 11) (pa_cons (pv 10) pa_nil))))) (pss_one (ps_set (i := 13) S.nd rfl (Or.inl rfl) (pe_mtK0 c_ledK hr (by decide) (fun σ => passF σ) (pv 2) (pk_cons (pv 10) (pk_cons (pv 11) pk_nil))))))))
      (pss_cons (ps_set (i := 14) S.nd rfl (Or.inl rfl) (C8.pe_c c_law_own_led hr (by decide) rfl (pa_cons (pv 3) (pa_cons (pv 9) (pa_cons (pv 10) (pa_cons (pv 6) pa_nil))))))
      (pss_cons (ps_if (PW.pt (pw_or (pt_not (pt_val (C8.pe_c c_law_cover_is hr (by decide) rfl (pa_cons (pv 13) (pa_cons (pv 14) (pa_cons (C8.pe_c c_law_size_of hr (by decide) rfl (pa_cons (pv 6) pa_nil)) pa_nil)))))) (pw_or1 (pt_not (pt_val (C8.pe_c c_law_like hr (by decide) rfl (pa_cons (pv 11) (pa_cons (pv 9) pa_nil)))))))) (pss_one (ps_ret pe_bl)) pss_nil)
      (pss_cons (ps_set (i := 15) S.nd rfl (Or.inl rfl) (C8.pe_mt c_phase hr (by decide) (pv 1) (pa_cons (pv 13) pa_nil)))
      (pss_cons (ps_if (pt_not (pt_val (C8.pe_c c_law_like hr (by decide) rfl (pa_cons (pv 15) (pa_cons (C8.pe_c c_law_phase hr (by decide) rfl (pa_cons (pe_ix (ix_tupK (K := K) rfl) (pv 14) pe_int (fun _ _ => rfl)) (pa_cons (pe_ix (ix_tupK (K := K) rfl) (pv 14) pe_int (fun _ _ => rfl)) (pa_cons (pv 5) (pa_cons (pv 7) pa_nil))))) pa_nil))))) (pss_one (ps_ret pe_bl)) pss_nil)
      (pss_cons (ps_set (i := 16) S.nd rfl (Or.inl rfl) (pe_callB call_abs rfl T.z_abs (by decide +kernel) (pa_cons (C8.pe_c c_law_mid hr (by decide) rfl (pa_cons (pe_op op_add (pe_op op_sub (pv 15) (pv 10)) (pe_callB (cr_sum rfl) rfl T.z_sum (by decide +kernel) (pa_cons (pe_lc (own := [("_law_x", 17), ("_law_t", 18)]) rfl S.nd (pi_zip rfl T.z_zip (pa_cons (pv 9) (pa_cons (pv 4) pa_nil))) (blkOk_by (N := ["_law_bag_here", "_law_key_y", "_law_thing", "_law_due_sw", "_law_bits_y", "_law_s", "_law_sz", "_law_q", "_law_many", "_law_row_here", "_law_body_y", "_law_given", "_law_way", "_law_told", "_law_due", "_law_found", "_law_off", "_law_x", "_law_t"]) (sc := C8.fnScope (top 79)) (by decide +kernel)) (fun _ _ _ _ _ => (pg_tupK (K := K) (n := 2) rfl rfl (pgs_cons (pg_name (i := 17) S.nd rfl (Or.inl rfl)) (pgs_cons (pg_name (i := 18) S.nd rfl (Or.inl rfl)) pgs_nil)))) (fun _ _ _ _ _ => pts_nil) (fun _ _ _ _ _ => (pe_op op_mul (pv 17) (pv 18)))) pa_nil))) (pa_cons (pv 7) pa_nil))) pa_nil)))
      (pss_one (ps_ret (pe_cmpR op_le (pv 16) (pe_op op_mul (pe_op op_mul (pe_op op_mul (pv 8) (pe_ix (ix_tupK (K := K) rfl) (pv 6) pe_int (fun _ _ => rfl))) (pe_op op_fdiv (pe_ix (ix_tupK (K := K) rfl) (pv 6) pe_int (fun _ _ => rfl)) pe_int)) (pe_ix (ix_tupK (K := K) rfl) (pv 6) pe_int (fun _ _ => rfl))) (nomark _)))))))))))))), ?_⟩
    walk_at "q"
    refine ⟨t, _, 5, _, rfl, rfl, SqT.of tz0, rfl, ?_⟩
    walk_at "q"
    refine ⟨bt, _, rfl, .inl (SqL.of F.bt_), ?_⟩
    walk_at "q"
    refine ⟨b, c, ts.length, k, z.q, by simp, z.qpos, Sz.qle o, by omega, by omega, F.bag, fun r ns H1 nl hr1 g1 k1 => ?_⟩
    walk_at "q1"
    walk_at "q1"
    walk_at "q1"
    walk_at "q1"
    refine use_if (fun v H' => ∃ y : Int, v = .int y ∧ Bag b c (k + 7062) H' ∧ KpB H1 H') (fun Qc hQ => ?_) ?_
    · walk_at "q"
      refine ⟨b, c, _, _, rfl, by decide, by decide, by omega, g1, fun d H2 d0 d1 g2 k2 => ?_⟩
      walk_at "q"
      refine r_ite (fun e => ?_) fun e => ?_
      · walk_at "q"
        exact ⟨b, c, _, rfl, by omega, g2, fun y H3 g3 k3 => hQ _ _ ⟨y, rfl, g3.mono (by omega), k2.trans k3⟩⟩
      · walk_at "q"
        exact ⟨b, c, z.q, _, rfl, z.qpos, by omega, g2, fun y H3 g3 k3 => hQ _ _ ⟨y, rfl, g3.mono (by omega), k2.trans k3⟩⟩
    rintro _ H3 ⟨y, rfl, g3, k3⟩
    walk_at "q"
    refine ⟨r, _, rfl, .inl (SqL.of (k3 _ _ hr1 (isBag_intL ns))), fun gv ngv => ?_⟩
    generalize hu : upd H3 gv _ = H4
    obtain ⟨s4, hgv⟩ := nwx ngv hu
    clear hu
    walk_at "q"
    refine ⟨b, c, _, _, rfl, by decide, by decide, by omega, g3.same s4, fun wy H5 w0 w1 g5 k5 => ?_⟩
    walk_at "q"
    have q05 : KpB H H5 := k1.trans (k3.trans ((KpB.of s4).trans k5))
    have F5 := F.kpb q05 g5
    have hr5 : H5 r = some (intL ns) := k5 _ _ (s4 _ _ (k3 _ _ hr1 (isBag_intL ns))) (isBag_intL ns)
    have hg5 : H5 gv = some (intL ns) := k5 _ _ hgv (isBag_intL ns)
    obtain ⟨dw, clw, plw, hsw, _, _⟩ := id F5.sw_.ex
    refine ⟨fun σ' H' => ∃ told : Addr, σ' = [some (.ref b), some (.ref ky), some (.ref sw), some (.ref osw), some (.ref bt), some (.ref sa), some (.ref t), some (.int z.q), some (.int ((ts.map V.int).length : Nat)), some (.ref r), some (.int y), some (.ref gv), some (.int wy), some (.ref told), none, none, none, none, none] ∧
      CvAt so (ledOf z (swOf z bs ts p ts.length).1.flatten ns y) told H' ∧ Same H5 H', ?_, ?_⟩
    · walk_at "q"
      refine r_ite (fun e0 => ?_) fun e0 => ?_
      · walk_at "q"
        refine ⟨sw, dw, _, rfl, hsw, by rfl, ?_⟩
        walk_at "q"
        refine ⟨gv, _, rfl, .inl ⟨SqL.of hg5, fun tu ntu => ?_⟩⟩
        generalize hu : upd H5 tu _ = H6
        obtain ⟨s6, htu⟩ := nwx ntu hu
        clear hu
        walk_at "q"
        exact ⟨sw, so, z, ts.length, _, _, _, rfl, (F5.led.kpb (KpB.of s6)), .inl ⟨tu, ns, false, y, rfl, rfl, htu, nl, fun cc H7 ncc s7 hcc => ⟨cc, rfl, hcc, s6.trans s7⟩⟩⟩
      walk_at "q"
      refine r_ite (fun e1 => ?_) fun e1 => ?_
      · walk_at "q"
        refine ⟨sw, dw, _, rfl, hsw, by rfl, ?_⟩
        walk_at "q"
        exact ⟨sw, so, z, ts.length, _, _, _, rfl, F5.led, .inl ⟨gv, ns, true, y, rfl, rfl, hg5, nl, fun cc H7 ncc s7 hcc => ⟨cc, rfl, hcc, s7⟩⟩⟩
      · walk_at "q"
        refine ⟨sw, dw, _, rfl, hsw, by rfl, ?_⟩
        walk_at "q"
        refine ⟨rfl, rfl, ?_⟩
        exact ⟨sw, so, z, ts.length, _, _, _, rfl, F5.led, .inl ⟨gv, ns, true, y, rfl, rfl, hg5, nl, fun cc H7 ncc s7 hcc => ⟨cc, rfl, hcc, s7⟩⟩⟩
    rintro σ H6 ⟨told, rfl, ht6, s6⟩
    have F6 := F5.kpb (KpB.of s6) (g5.same s6)
    have tz6 := tz H6 (q05.trans (KpB.of s6))
    walk_at "q"
    refine ⟨osw, r, t, z, _, ns, y, rfl, o, F6.tz, F6.os, (by rw [nl]; exact swOf_LnOk _), s6 _ _ hr5, by omega, fun du H7 ndu s7 hdu => ?_⟩
    rw [two_leds o (by rw [nl]; exact swOf_LnOk _) (by omega)] at hdu
    have ht7 := ht6.same s7
    have n8 := o.n8
    have cl : (ledOf z (swOf z bs ts p ts.length).1.flatten ns y).m.length ≤ 1000 := by
      rw [ledOf_eq o (swOf_ok _) (by omega)]
      show (tab _ _).length ≤ 1000
      rw [tab_len]; omega
    have pb := phase_bd o (bs := bs) (ts := ts) (ns := ns) (p := p) F.bl nl.symm (by omega) y
    rw [nl] at pb
    generalize hcv : ledOf z (swOf z bs ts p ts.length).1.flatten ns y = cv at ht6 ht7 hdu cl pb
    walk_at "q"
    have q07 := q05.trans (KpB.of (s6.trans s7))
    refine ⟨t, z, rfl, o, s7 _ _ F6.tz, fun so2 H8 nso2 s8 hso2 => ?_⟩
    walk_at "q"
    refine ⟨told, so, so2, du, z, cv, rfl, ht7.same s8, (F6.sw_.sz.same s7).same s8, hso2, hdu.same s8, cl, fun H9 s9 => ?_⟩
    walk_at "q"
    have s59 : Same H5 H9 := s6.trans (s7.trans (s8.trans s9))
    refine ⟨_, _, rfl, like_ints (s59 _ _ hg5) (s59 _ _ hr5) (by omega) 1, fun H10 s10 => ?_⟩
    walk_at "q"
    have s510 := s59.trans s10
    have s710 : Same H7 H10 := s8.trans (s9.trans s10)
    obtain ⟨dk, bk, pk1, pk2, hky, _⟩ := id (F5.key.same s510).ex
    refine ⟨ky, dk, _, rfl, hky, by rfl, ?_⟩
    walk_at "q"
    refine ⟨ky, so, told, z, bs, cv, rfl, o, F5.key.same s510, F.bb, ht7.same s710, cl, fun H11 s11 => ?_⟩
    obtain ⟨ml, hdu1, hdu2⟩ := id ((hdu.same s710).same s11)
    have s511 := s510.trans s11
    walk_at "q"
    refine ⟨du, _, 0, _, rfl, rfl, SqT.of hdu1, rfl, ?_⟩
    walk_at "q"
    refine ⟨du, _, 1, _, rfl, rfl, SqT.of hdu1, rfl, ?_⟩
    walk_at "q"
    refine ⟨ml, sa, cv.m, bs, cv.y, z.q, rfl, z.qpos, hdu2, s511 _ _ F5.sa_, cl, F.bb, fun H12 s12 => ?_⟩
    refine ⟨_, _, rfl, like_int _ _ _, fun H13 s13 => ?_⟩
    have s513 := s511.trans (s12.trans s13)
    have hr13 := s513 _ _ hr5
    have hb13 := s513 _ _ F5.bt_
    walk_at "q"
    refine ⟨r, bt, _, _, rfl, SqL.of hr13, SqL.of hb13, ?_⟩
    intro D hD
    refine lc_inv (walk_zip rfl) hD (fun i acc H' => acc = ((List.zipWith (· * ·) ns ts).take i).map V.int ∧ Same H13 H') ⟨rfl, Same.refl _⟩ (fun i acc H' o ⟨e, s⟩ => ⟨e, fun b u e => by rw [upd_ne (ne_of_none e hD)]; exact s b u e⟩) (fun i acc H' ⟨_, s⟩ => ⟨SqL.of (s _ _ hr13), SqL.of (s _ _ hb13)⟩) (by simp; omega) ?_ ?_
    · rintro i acc v H14 H15 hi hla ⟨e, s14⟩ hD2 ⟨Tp, y1, z1, rfl, hT, rfl, hy, hz⟩ Kc kc
      obtain ⟨m, hm1, rfl⟩ := lst_at hy
      obtain ⟨b', hb1, rfl⟩ := lst_at hz
      obtain ⟨q1, q2⟩ := F.tb b' (List.mem_of_getElem? hb1)
      refine ⟨_, _, rfl, SqT.of upd_same, rfl, ?_⟩
      walk_at "q"
      refine ⟨rfl, ?_⟩
      walk_at "q"
      refine r_I (.inr ⟨by omega, by omega⟩) ?_
      refine kc _ _ (by rw [upd_ne (ne_of_none hD2 hT)]; exact hD2) ⟨?_, s14.trans (same_upd hT)⟩
      rw [e, List.take_add_one, zw_at hm1 hb1, List.map_append]
      rfl
    rintro acc H14 hla ⟨e, s14⟩ hD2
    walk_at "q"
    have e2 : acc = (List.zipWith (· * ·) ns ts).map V.int := by rw [e, List.take_of_length_le (by simp)]
    rw [e2] at hD2
    refine ⟨D, _, rfl, SqL.of hD2, ?_⟩
    walk_at "q"
    refine ⟨_, _, rfl, z.qpos, ?_⟩
    walk_at "q"
    have s514 := s513.trans s14
    have tz14 := tz H14 (q05.trans (KpB.of s514))
    have l8 := o.l8
    have bp := z.Bpos
    have bl := Sz.Ble o
    have e1 := o.e1
    refine ⟨_, rfl, ?_⟩
    walk_at "q"
    have hB2 : z.B / 2 = z.h := by have := Sz.B2 o; omega
    have m1 : (ts.length : Int) * z.l ≤ 32 * 8 := Int.mul_le_mul (by omega) (by omega) (by omega) (by omega)
    have m0 : 0 ≤ (ts.length : Int) * z.l := Int.mul_nonneg (by omega) (by omega)
    refine ⟨t, _, 3, _, rfl, rfl, SqT.of tz14, rfl, ?_⟩
    refine r_I (.inl ⟨by rw [List.length_map]; omega, by rw [List.length_map]; omega⟩) ?_
    rw [List.length_map]
    walk_at "q"
    refine ⟨t, _, 2, _, rfl, rfl, SqT.of tz14, rfl, ?_⟩
    walk_at "q"
    refine r_I (by unfold CDiv; omega) ?_
    refine r_I (.inl ⟨by omega, by omega⟩) ?_
    walk_at "q"
    refine ⟨t, _, 4, _, rfl, rfl, SqT.of tz14, rfl, ?_⟩
    refine r_I (.inr ⟨by omega, by omega⟩) ?_
    walk_at "q"
    have fin : (if mid (mid (cv.y - dotZ cv.m bs) z.q - y + (List.zipWith (· * ·) ns ts).sum) z.q < 0 then -mid (mid (cv.y - dotZ cv.m bs) z.q - y + (List.zipWith (· * ·) ns ts).sum) z.q else mid (mid (cv.y - dotZ cv.m bs) z.q - y + (List.zipWith (· * ·) ns ts).sum) z.q) ≤ (ts.length : Int) * z.l * (z.B / 2) * z.e := by
      have e9 : (List.zipWith (· * ·) ns ts).sum = dotZ ns ts := rfl
      rw [e9, hB2]
      obtain ⟨b1, b2⟩ := pb
      split <;> omega
    have g14 : Bag b c (k + 9000) H14 := (g5.same s514).mono (by omega)
    show Q (.bl (decide _)) H14
    rw [decide_eq_true fin]
    exact h _ g14 (q05.trans (KpB.of s514))
end
end K20

set_option Elab.async false
set_option linter.all false
set_option maxRecDepth 100000
set_option maxHeartbeats 4000000
namespace K20
open PySem PySem.Spec PyProof.Rows L2
local macro_rules | `(tactic| walk_at "q1") => `(tactic| first
  | with_reducible refine r_seq ?_ | with_reducible refine r_asg ?_ | with_reducible refine r_name ?_ | with_reducible refine r_ret ?_ | with_reducible refine r_ifS ?_ | with_reducible refine r_next ?_ | with_reducible refine r_drop ?_
  | ((with_reducible show tVar _ _ _ _); refine ⟨_, rfl, ?_⟩) | with_reducible refine r_c ?_ | with_reducible refine r_op ?_ | with_reducible refine r_un ?_ | with_reducible refine r_I0 ?_ | with_reducible refine r_U ?_
  | with_reducible refine r_eqI ?_ | with_reducible refine r_neI ?_ | with_reducible refine r_neB ?_ | with_reducible refine r_cb ?_ | with_reducible refine r_cons ?_ | with_reducible refine r_nil ?_ | with_reducible refine r_test ?_ | with_reducible refine r_tB ?_
  | with_reducible refine r_bl ?_ | with_reducible refine r_not ?_ | with_reducible refine r_notV ?_ | with_reducible refine r_and ?_ | with_reducible refine r_or ?_ | with_reducible refine r_andV ?_ | with_reducible refine r_orV ?_ | with_reducible refine r_if ?_
  | with_reducible refine r_T ?_ | with_reducible refine r_F ?_ | with_reducible refine r_NT ?_ | with_reducible refine r_NF ?_ | with_reducible refine r_call ?_ | with_reducible refine r_meth ?_ | with_reducible refine r_int1 ?_ | with_reducible refine r_fld ?_
  | with_reducible refine r_tup ?_ | with_reducible refine r_lst ?_ | with_reducible refine r_par ?_ | with_reducible refine r_par3 ?_ | with_reducible refine r_two ?_ | with_reducible refine r_three ?_ | with_reducible refine r_abs ?_ | with_reducible refine r_max ?_
  | with_reducible refine r_cut ?_ | with_reducible refine r_callS ?_ | with_reducible refine r_zipA ?_ | with_reducible refine r_isN ?_ | with_reducible refine r_lc ?_ | with_reducible refine r_lc2 ?_ | with_reducible refine r_mkB ?_ | with_reducible refine r_for ?_ | with_reducible refine r_iList ?_ | with_reducible refine r_iTup ?_ | with_reducible refine r_revL ?_ | with_reducible refine r_star ?_ | with_reducible refine r_bits ?_ | with_reducible refine r_iRng ?_ | with_reducible refine r_iEnum ?_ | with_reducible refine r_iZip ?_ | with_reducible refine r_sub ?_ | with_reducible refine r_sfld ?_ | with_reducible refine r_bm ?_
  | with_reducible refine r_methK ?_ | with_reducible refine r_methS ?_ | with_reducible refine r_make ?_ | with_reducible refine r_mod ?_ | with_reducible refine r_gtup ?_ | with_reducible refine r_gcons ?_ | with_reducible refine r_gnil ?_ | with_reducible refine r_slc ?_ | with_reducible refine r_part ?_ | with_reducible refine r_noPart ?_)
local macro_rules | `(tactic| walk_at "nw") => `(tactic| (intro p hp; generalize hu : upd _ p _ = H1; obtain ⟨s1, hp1⟩ := nwx hp hu; clear hu))
local macro_rules | `(tactic| walk_at "q") => `(tactic| repeat walk_at "q1")
section
variable {P : Program} {w : World} {K : Fr} {mg : Str → Option Value} {base : Heap}
/-! ### the law -/
theorem DrAt.kpb {p : Pen} {d : Addr} {l : Pl} {H H' : Hp} (h : DrAt p d l H) (k : KpB H H') : DrAt p d l H' := by
  cases p with
  | made s => exact k _ _ h rfl
  | lst ns es i j => exact ⟨k _ _ h.1 rfl, k _ _ h.2.1 (isBag_intL _), k _ _ h.2.2 (isBag_intL _)⟩
theorem PenAt.kpb {p : Pen} {a : Addr} {l : Pl} {H H' : Hp} (h : PenAt p a l H) (k : KpB H H') : PenAt p a l H' := by
  cases p with
  | made s => exact ⟨k _ _ h.1 rfl, h.2⟩
  | lst ns es i j => exact ⟨k _ _ h.1 rfl, k _ _ h.2.1 (isBag_intL _), k _ _ h.2.2 (isBag_intL _)⟩
/-- what the law holds on to -/
def Good (o : HO) : Prop := (∃ C dx fs, o = .ins C dx fs) ∨ (∃ xs, o = .tup xs) ∨ (∃ ns, o = intL ns) ∨ ∃ as, o = refL as
def KpG (H H' : Hp) : Prop := ∀ a o, H a = some o → Good o → H' a = some o
theorem KpG.ofDr {p : Pen} {d : Addr} {l : Pl} {H H' : Hp} (hd : DrAt p d l H) (k : KpA d H H') : KpG H H' := fun a o e g => by
  rcases g with ⟨C, dx, fs, rfl⟩ | ⟨xs, rfl⟩ | ⟨ns, rfl⟩ | ⟨as, rfl⟩
  · refine k _ _ (fun z => ?_) e
    obtain ⟨_, _, _, _, _, _, q⟩ := hd.at_
    rw [z, q] at e; cases e
  · exact k _ _ (hd.ne_tup e) e
  · exact k _ _ (hd.ne_int e) e
  · exact k _ _ (hd.ne_ref e) e
theorem gI {C dx : Addr} {fs : List (Str × V)} : Good (.ins C dx fs) := .inl ⟨_, _, _, rfl⟩
theorem gT {xs : List V} : Good (.tup xs) := .inr (.inl ⟨_, rfl⟩)
theorem gN {ns : List Int} : Good (intL ns) := .inr (.inr (.inl ⟨_, rfl⟩))
theorem gR {as : List Addr} : Good (refL as) := .inr (.inr (.inr ⟨_, rfl⟩))
theorem CvsAt.kpg {so : Addr} {cs : List Cov} {a : Addr} {H H' : Hp} (h : CvsAt so cs a H) (k : KpG H H') : CvsAt so cs a H' := let ⟨as, e, f, g⟩ := h; ⟨as, k _ _ e gR, f, fun i a c h1 h2 => let ⟨dx, mp, e, f⟩ := g i a c h1 h2; ⟨dx, mp, k _ _ e gI, k _ _ f gN⟩⟩
theorem SwAt.kpg {so : Addr} {z : Sz} {wd : Nat} {cs : List Cov} {a : Addr} {H H' : Hp} (h : SwAt so z cs wd a H) (k : KpG H H') : SwAt so z cs wd a H' := let ⟨⟨dx, cl, pl, e, f, g⟩, ⟨d2, q⟩⟩ := h; ⟨⟨dx, cl, pl, k _ _ e gI, f.kpg k, k _ _ g gN⟩, ⟨d2, k _ _ q gI⟩⟩
theorem KeyAt.kpg {so : Addr} {z : Sz} {bs : List Int} {a : Addr} {H H' : Hp} (h : KeyAt so z bs a H) (k : KpG H H') : KeyAt so z bs a H' := let ⟨⟨dx, bl, pb, pp, e, f⟩, ⟨d2, q⟩⟩ := h; ⟨⟨dx, bl, pb, pp, k _ _ e gI, k _ _ f gN⟩, ⟨d2, k _ _ q gI⟩⟩
theorem PenAt.kpg {p : Pen} {a : Addr} {l : Pl} {H H' : Hp} (h : PenAt p a l H) (k : KpG H H') : PenAt p a l H' := by
  cases p with
  | made s => exact ⟨k _ _ h.1 gI, h.2⟩
  | lst ns es i j => exact ⟨k _ _ h.1 gI, k _ _ h.2.1 gN, k _ _ h.2.2 gN⟩
/-- a pen draws: all but pens is kept -/
theorem pen_off {p : Pen} {pn a : Addr} {l : Pl} {H H' : Hp} {o : HO} (hp : PenAt p pn l H) (k : KpA pn H H') (e : H a = some o) (ne : ∀ C dx fs, o ≠ .ins C dx fs) : H' a = some o := by
  obtain ⟨C, dx, fs, eb, _⟩ := hp.ins
  exact k _ _ (ne_ins e eb fun q => ne _ _ _ q) e
theorem SwAt.new {so : Addr} {z : Sz} {wd : Nat} {cs : List Cov} {a d : Addr} {p : Pen} {l : Pl} {H H' : Hp} (h : SwAt so z cs wd a H) (hp : PenAt p d l H) (k : KpA d H H') : SwAt so z cs wd a H' := by
  obtain ⟨⟨dx, cl, pl, e, f, g⟩, hs⟩ := h
  obtain ⟨C, dx', fs, eb, c⟩ := hp.ins
  refine ⟨⟨dx, cl, pl, k _ _ (ne_ins e eb fun q => ?_) e, f.new k hp, pen_off hp k g (fun _ _ _ q => by cases q)⟩, hs.kp' hp k⟩
  injection q with q
  rcases c with c | c <;> rw [c] at q <;> revert q <;> decide
theorem Bag.pen {b c pn : Addr} {k : Nat} {p : Pen} {l : Pl} {H H' : Hp} (h : Bag b c k H) (hp : PenAt p pn l H) (q : KpA pn H H') : Bag b c k H' := by
  obtain ⟨cells, i, g, m, n, h1, h2, h3⟩ := h.ex
  exact ⟨cells, i, g, m, n, pen_off hp q h1 (fun _ _ _ q => by cases q), pen_off hp q h2 (fun _ _ _ q => by cases q), h3⟩
theorem Bag.dr {b c d : Addr} {k : Nat} {p : Pen} {l : Pl} {H H' : Hp} (h : Bag b c k H) (hd : DrAt p d l H) (q : KpA d H H') : Bag b c k H' := by
  obtain ⟨cells, i, g, m, n, h1, h2, h3⟩ := h.ex
  refine ⟨cells, i, g, m, n, q _ _ (fun z => ?_) h1, KpG.ofDr hd q _ _ h2 gN, h3⟩
  obtain ⟨_, _, _, _, _, _, e⟩ := hd.at_
  rw [z, e] at h1; cases h1
theorem DrAt.pen {p p' : Pen} {d pn : Addr} {l l' : Pl} {H H' : Hp} (h : DrAt p d l H) (hp : PenAt p' pn l' H) (q : KpA pn H H') : DrAt p d l H' := by
  cases p with
  | made s => exact pen_off hp q h (fun _ _ _ q => by cases q)
  | lst ns es i j => exact ⟨pen_off hp q h.1 (fun _ _ _ q => by cases q), pen_off hp q h.2.1 (fun _ _ _ q => by cases q), pen_off hp q h.2.2 (fun _ _ _ q => by cases q)⟩
theorem PlI.pen {p' : Pen} {pn : Addr} {l l' : Pl} {H H' : Hp} (h : PlI l H) (hp : PenAt p' pn l' H) (q : KpA pn H H') : PlI l H' := by
  obtain ⟨⟨a, e⟩, ⟨b, f⟩⟩ := h
  exact ⟨⟨a, pen_off hp q e (fun _ _ _ q => by cases q)⟩, ⟨b, pen_off hp q f (fun _ _ _ q => by cases q)⟩⟩
def spLaw (K : Fr) : Sp := fun vs H Q _ => ∃ (a : Addr) (ns : List Int), vs = [.ref a] ∧ SqL K H a (ns.map V.int) ∧ ∀ H', Q (.bl true) H'
theorem ok_law_k20 (T : Txt K mg) (c_law_bag : C8.Cal P w K mg base 1 "_law_bag" (spBag K) []) (c_law_sizes : C8.Cal P w K mg base 2 "_law_sizes" spSizes2 []) (c_law_size_of : C8.Cal P w K mg base 5 "_law_size_of" spSizeOf []) (c_law_bits : C8.Cal P w K mg base 2 "_law_bits" spBits2 [])
    (c_Key : C8.Mak P w K mg base 5 "Key" 863 spKey []) (c_law_pen : C8.Cal P w K mg base 6 "_law_pen" spPen []) (c_law_draw : C8.Cal P w K mg base 1 "_law_draw" spDraw []) (c_Mtwin : C8.Met P w K mg base 4 678 "twin" (spM spTwin) []) (c_Ltwin : C8.Met P w K mg base 5 720 "twin" (spL spTwin) [])
    (c_switch_from : MetK C8.CX0 P w K mg base 7 863 "switch_from" spSwFrom 1 ["draws"] appV) (c_law_own_switch : C8.Cal P w K mg base 4 "_law_own_switch" spOwnSw []) (c_law_lead_fits : C8.Cal P w K mg base 6 "_law_lead_fits" spFits []) (c_law_wrong : C8.Cal P w K mg base 9 "_law_wrong" spWrong [])
    (c_law_like : C8.Cal P w K mg base 3 "_law_like" (spLike 2) []) (c_Switch_eq : ∃ fd, FnOk P w K mg base C8.CX0 4 618 fd ["self", "other"] (spEq RSw) ∧ Binds K fd ["self", "other"] [])  {fd : FuncData} (hF : C8.Fun K "law" "law" (top 83) 1050 fd) : FnOk P w K mg base C8.CX0 10 1050 fd ["_law_script"] (spLaw K) := by
  obtain ⟨fd1, F1, b1⟩ := c_Switch_eq
  have S : FnScope ["_law_script", "_law_bag_here", "_law_sz", "_law_so", "_law_s", "_law_z", "_law_key_y", "_law_pen_here", "_law_dr", "_law_many", "_law_bits_y", "_law_again", "_law_thing", "_law_due_sw", "_law_turn"] ["_law_script"] (C8.fnScope (top 83)) := C8.fnScope_by (by decide +kernel)
  refine C8.fn0 hF S (fun vs H Q E h => ?_) (fun cdv A outer s H vs Q E hr h => ?_)
  · obtain ⟨a, ns, rfl, _⟩ := h
    rfl
  · obtain ⟨a, ns, rfl, ha, h⟩ := h
    refine ⟨_, (pss_cons (ps_set (i := 1) S.nd rfl (Or.inl rfl) (C8.pe_c c_law_bag hr (by decide) rfl (pa_cons (pv 0) pa_nil)))
      (pss_cons (ps_set (i := 2) S.nd rfl (Or.inl rfl) (C8.pe_c c_law_sizes hr (by decide) rfl (pa_cons (pv 1) pa_nil)))
      (pss_cons (ps_set (i := 3) S.nd rfl (Or.inl rfl) (C8.pe_c c_law_size_of hr (by decide) rfl (pa_cons (pv 2) pa_nil)))
      (pss_cons (ps_par (i := 4) (j := 5) rfl S.nd rfl rfl (by decide) rfl rfl (pa_cons (C8.pe_c c_law_bits hr (by decide) rfl (pa_cons (pv 1) (pa_cons (pe_ix (ix_tupK (K := K) rfl) (pv 2) pe_int (fun _ _ => rfl)) pa_nil))) (pa_cons (C8.pe_c c_law_bits hr (by decide) rfl (pa_cons (pv 1) (pa_cons (pe_ix (ix_tupK (K := K) rfl) (pv 2) pe_int (fun _ _ => rfl)) pa_nil))) pa_nil)) (by rfl))
      (pss_cons (ps_set (i := 6) S.nd rfl (Or.inl rfl) (C8.pe_mk c_Key hr (by decide) rfl (pa_cons (pv 3) (pa_cons (pv 4) (pa_cons (pv 5) pa_nil)))))
      (pss_cons (ps_asg (C8.pe_c c_law_pen hr (by decide) rfl (pa_cons (pv 1) (pa_cons (pv 2) pa_nil))) (pg_tupK (K := K) (n := 2) rfl rfl (pgs_cons (pg_name (i := 7) S.nd rfl (Or.inl rfl)) (pgs_cons (pg_name (i := 8) S.nd rfl (Or.inl rfl)) pgs_nil))))
      (C8.pss_cut (ps_set (i := 9) S.nd rfl (Or.inl rfl) (pe_ifExp (pt_cmpR op_eq (C8.pe_c c_law_draw hr (by decide) rfl (pa_cons (pv 1) (pa_cons pe_int pa_nil))) pe_int (nomark _)) (pe_ix (ix_listK (K := K) rfl) (pe_lst (pa_cons pe_int (pa_cons pe_int (pa_cons pe_int (pa_cons pe_int pa_nil))))) (C8.pe_c c_law_draw hr (by decide) rfl (pa_cons (pv 1) (pa_cons pe_int pa_nil))) (fun _ _ => rfl)) (pe_op op_add pe_int (C8.pe_c c_law_draw hr (by decide) rfl (pa_cons (pv 1) (pa_cons pe_int pa_nil))))))
      (pss_cons (ps_set (i := 10) S.nd rfl (Or.inl rfl) (C8.pe_c c_law_bits hr (by decide) rfl (pa_cons (pv 1) (pa_cons (pv 9) pa_nil))))
      (pss_cons (ps_set (i := 11) S.nd rfl (Or.inl rfl) (pe_pen0 c_Mtwin c_Ltwin hr (by decide) (by decide) (fun _ => rfl) (fun _ _ _ _ => rfl) (pv 7)))
      (pss_cons (ps_set (i := 12) S.nd rfl (Or.inl rfl) (pe_mtK c_switch_from hr (by decide) (fun _ => pass0' _ _) (pv 6) (pa_cons (pe_callTy call_list_of rfl T.z_list (by decide +kernel) (pa_cons (pv 10) pa_nil)) pa_nil) (pk_cons (pv 7) pk_nil)))
      (pss_cons (ps_set (i := 13) S.nd rfl (Or.inl rfl) (C8.pe_c c_law_own_switch hr (by decide) rfl (pa_cons (pv 2) (pa_cons (pv 4) (pa_cons (pv 10) (pa_cons (pv 8) pa_nil))))))
      (pss_cons (ps_if (pt_not (pt_val (pe_callB (call_isiK (K := K) rfl) rfl T.z_isinstance (by decide +kernel) (pa_cons (pv 12) (pa_cons (pe_glob (v := .ref 621) rfl T.g_Switch rfl) pa_nil))))) (pss_one (ps_ret pe_bl)) pss_nil)
      (pss_cons (ps_for PassesOwn.never rfl (pi_range1 rfl T.z_range (pa_cons pe_int pa_nil)) (pg_name (i := 14) S.nd rfl (Or.inl rfl)) (pss_one (ps_if (PW.pt (pw_or (pt_not (pt_val (C8.pe_c c_law_lead_fits hr (by decide) rfl (pa_cons (pv 1) (pa_cons (pv 6) (pa_cons (pv 12) (pa_cons (pv 13) (pa_cons (pv 10) (pa_cons (pv 4) (pa_cons (pv 2) pa_nil)))))))))) (pw_or1 (pt_not (pt_val (C8.pe_c c_law_wrong hr (by decide) rfl (pa_cons (pv 1) (pa_cons (pv 12) (pa_cons (pv 9) pa_nil))))))))) (pss_one (ps_ret pe_bl)) pss_nil)))
      (pss_one (ps_ret (C8.pe_c c_law_like hr (by decide) rfl (pa_cons (pe_cmpR (op_eqG (rcG_ins (E := C8.E0) F1 T.e_Switch.1 T.e_Switch.2 b1 (fun _ _ _ _ _ _ _ h => h.elim)) (hr.mono (by decide))) (pv 12) (pe_mtK c_switch_from hr (by decide) (fun _ => pass0' _ _) (pv 6) (pa_cons (pv 10) pa_nil) (pk_cons (pv 11) pk_nil)) (nomark _)) (pa_cons pe_bl pa_nil)))))))))))))))))), ?_⟩
    walk_at "q"
    refine ⟨a, ns, rfl, ha, fun b c H1 s1 g1 => ?_⟩
    walk_at "q"
    refine ⟨b, c, 0, rfl, by omega, g1, fun z t H2 o tz2 g2 k2 => ?_⟩
    have tzv (H' : Hp) (q : KpB H2 H') : H' t = some (.tup [.int z.n, .int z.m, .int z.B, .int z.l, .int z.e, .int z.q]) := q _ _ tz2 rfl
    walk_at "q"
    refine ⟨t, z, rfl, o, tz2, fun so H3 nso s3 hso3 => ?_⟩
    have q3 : KpB H2 H3 := KpB.of s3
    walk_at "q"
    have n8 := o.n8
    have m_ := o.m_
    refine ⟨t, _, 0, _, rfl, rfl, SqT.of (tzv _ q3), rfl, ?_⟩
    refine ⟨b, c, z.n, _, rfl, by omega, by omega, g2.same s3, fun sa bs H4 bl bb hsa4 g4 k4 => ?_⟩
    have q4 := q3.trans k4
    walk_at "q"
    refine ⟨t, _, 1, _, rfl, rfl, SqT.of (tzv _ q4), rfl, ?_⟩
    refine ⟨b, c, z.m, _, rfl, by omega, by omega, g4, fun pa ps H5 pl pb hpa5 g5 k5 => ?_⟩
    have q5 := q4.trans k5
    have hsa5 := k5 _ _ hsa4 (isBag_intL bs)
    walk_at "q"
    intro x dx nx nd ne
    have s6 := made_new (o := .ins 863 dx []) (u := .own x) nx nd ne
    have hx6 : upd (upd H5 dx (.own x)) x (.ins 863 dx []) x = some (.ins 863 dx []) := upd_same
    generalize upd (upd H5 dx (.own x)) x (.ins 863 dx []) = H6 at s6 hx6 ⊢
    have hso5 := hso3.kp (k4.trans k5)
    refine ⟨x, dx, so, sa, pa, z, bs, ps, rfl, o, hx6, hso5.same s6, s6 _ _ hsa5, s6 _ _ hpa5, bl, pl, bb, pb, fun H7 k7 ky7 => ⟨rfl, ?_⟩⟩
    have s57 : Same H5 H7 := fun b u e => k7 _ _ (ne_of_none e nx) (s6 _ _ e)
    have q7 := q5.trans (KpB.of s57)
    walk_at "q"
    refine ⟨b, c, t, z, _, rfl, o, tzv _ q7, by omega, g5.same s57, fun pt pn d p l l2 H8 hpt hp8 hd8 hi8 pok g8 k8 => ?_⟩
    have q8 := q7.trans k8
    have ky8 := ky7.kpb k8
    have hsa8 := k8 _ _ (s57 _ _ hsa5) (isBag_intL bs)
    walk_at "q"
    refine ⟨pt, _, rfl, SqT.of hpt, rfl, ?_⟩
    walk_at "q"
    refine ⟨fun σ' H' => ∃ m : Nat, m ≤ 32 ∧ σ' = [some (.ref a), some (.ref b), some (.ref t), some (.ref so), some (.ref sa), some (.ref pa), some (.ref x), some (.ref pn), some (.ref d), some (.int m), none, none, none, none, none] ∧ Bag b c 4000 H' ∧ KpB H8 H', ?_, ?_⟩
    · walk_at "q"
      refine ⟨b, c, _, _, rfl, by decide, by decide, by omega, g8, fun w1 H9 w10 w11 g9 k9 => ?_⟩
      walk_at "q"
      refine r_ite (fun e => ?_) fun e => ?_
      · walk_at "q"
        refine ⟨(show (4 : Nat) ≤ sizeLine by decide), ?_⟩
        walk_at "nw"
        rename_i p4 np4 H10 s10 hp4
        walk_at "q"
        refine ⟨b, c, _, _, rfl, by decide, by decide, by omega, g9.same s10, fun w2 H11 w20 w21 g11 k11 => ?_⟩
        have hp4' := k11 _ _ hp4 rfl
        obtain ⟨j, rfl⟩ := Int.eq_ofNat_of_zero_le w20
        have hj : j < 4 := by omega
        have kk := k9.trans ((KpB.of s10).trans k11)
        match j, hj with
        | 0, _ => exact ⟨p4, _, 0, _, rfl, rfl, SqL.of hp4', rfl, 0, by omega, rfl, g11.mono (by omega), kk⟩
        | 1, _ => exact ⟨p4, _, 1, _, rfl, rfl, SqL.of hp4', rfl, 1, by omega, rfl, g11.mono (by omega), kk⟩
        | 2, _ => exact ⟨p4, _, 2, _, rfl, rfl, SqL.of hp4', rfl, 8, by omega, rfl, g11.mono (by omega), kk⟩
        | 3, _ => exact ⟨p4, _, 3, _, rfl, rfl, SqL.of hp4', rfl, 32, by omega, rfl, g11.mono (by omega), kk⟩
      · walk_at "q"
        refine ⟨b, c, _, _, rfl, by decide, by decide, by omega, g9, fun w2 H11 w20 w21 g11 k11 => ?_⟩
        walk_at "q"
        obtain ⟨j, rfl⟩ := Int.eq_ofNat_of_zero_le w20
        exact ⟨1 + j, by omega, by rw [Int.natCast_add]; rfl, g11.mono (by omega), k9.trans k11⟩
    rintro σ H10 ⟨m, hm, rfl, g10, k10⟩
    walk_at "q"
    refine ⟨b, c, m, _, rfl, by omega, by omega, g10, fun bt ts H11 tl tb hbt g11 k11 => ?_⟩
    subst tl
    have q811 := k10.trans k11
    have q11 := q8.trans q811
    walk_at "q"
    refine ⟨pn, p, l, rfl, hp8.kpb q811, pn, l, rfl, hp8.kpb q811, pok, fun ag l' H12 nag s12 hag => ?_⟩
    have hp11 := hp8.kpb q811
    have ky12 := (ky8.kpb q811).same s12
    have neag : ag ≠ pn := fun e => by
      obtain ⟨C, dx', fs, eb, _⟩ := hp11.ins
      rw [e, eb] at nag; cases nag
    obtain ⟨dk, bk, pk1, pk2, hky, _⟩ := id ky12.ex
    walk_at "q"
    refine ⟨x, dk, _, rfl, hky, by rfl, ?_⟩
    walk_at "q"
    refine ⟨bt, _, rfl, .inl (SqL.of (s12 _ _ hbt)), fun bl2 nbl => ?_⟩
    generalize hu : upd H12 bl2 _ = H13
    obtain ⟨s13, hbl2⟩ := nwx nbl hu
    clear hu
    have s1113 := s12.trans s13
    walk_at "q"
    refine ⟨rfl, rfl, ?_⟩
    refine ⟨x, so, pn, bl2, z, bs, ts, p, l, rfl, o, ky12.same s13, bb, hbl2, by omega, tb, hp11.same s1113, pok, fun sw H14 nsw k14 hp14 hsw14 => ?_⟩
    have pn13 := hp11.same s1113
    have hag14 := (hag.same s13).kp pn13 neag k14
    have ky14 := (ky12.same s13).kp pn13 k14
    have g14 := (g11.same s1113).pen pn13 k14
    have tz14 := pen_off pn13 k14 (s1113 _ _ (tzv _ q11)) (fun _ _ _ q => by cases q)
    have hsa14 := pen_off pn13 k14 (s1113 _ _ (q811 _ _ hsa8 (isBag_intL bs))) (fun _ _ _ q => by cases q)
    have hbt14 := pen_off pn13 k14 (s1113 _ _ hbt) (fun _ _ _ q => by cases q)
    have hd14 := ((hd8.kpb q811).same s1113).pen pn13 k14
    have hi14 := ((hi8.kpb q811).kpb (KpB.of s1113)).pen pn13 k14
    walk_at "q"
    refine ⟨t, sa, bt, d, z, bs, ts, p, l2, rfl, o, tz14, hsa14, bb, hbt14, by omega, hd14, hi14.ok, pok, fun os H15 k15 hos => ?_⟩
    have kg := KpG.ofDr hd14 k15
    have sw15 := hsw14.kpg kg
    obtain ⟨dw, clw, plw, hsw, _, _⟩ := id sw15.ex
    walk_at "q"
    refine r_isO T.i_Switch hsw ?_
    walk_at "q"
    refine ⟨_, rfl, by decide, by decide, ?_⟩
    have F15 : Fits b c x sw os bt sa t so z bs ts p 5000 H15 := ⟨o, kg _ _ tz14 gT, (g14.dr hd14 k15).mono (by omega), ky14.kpg kg, bb, bl, kg _ _ hsa14 gN, kg _ _ hbt14 gN, tb, by omega, sw15, hos⟩
    refine for_it (walk_range (n := 3)) (fun i σ H' => ∃ v14, σ = [some (.ref a), some (.ref b), some (.ref t), some (.ref so), some (.ref sa), some (.ref pa), some (.ref x), some (.ref pn), some (.ref d), some (.int ts.length), some (.ref bt), some (.ref ag), some (.ref sw), some (.ref os), v14] ∧ Bag b c (5000 + 12000 * i) H' ∧ KpB H15 H') ⟨_, rfl, F15.bag, KpB.refl _⟩ (fun _ _ _ _ _ => trivial) ?_ ?_
    · rintro i v σ H16 H17 hi ⟨v14, rfl, g16, k16⟩ ⟨rfl, rfl⟩
      have F16 := F15.kpb k16 g16
      walk_at "q"
      refine ⟨b, c, x, sw, os, bt, sa, t, so, z, bs, ts, p, _, rfl, by omega, F16, fun H18 g18 k18 => ?_⟩
      walk_at "q"
      refine ⟨b, c, sw, so, z, ts.length, _, _, rfl, by omega, g18, (F16.kpb k18 g18).led, fun H19 g19 k19 => ?_⟩
      walk_at "q"
      exact ⟨_, rfl, g19.mono (by omega), k16.trans (k18.trans k19)⟩
    rintro σ H16 ⟨v14, rfl, g16, k16⟩
    have F16 := F15.kpb k16 g16
    have hag16 := (hag14.kpg kg).kpb k16
    obtain ⟨dk2, bk2, pk3, pk4, hky2, _⟩ := id F16.key.ex
    walk_at "q"
    refine ⟨x, dk2, _, rfl, hky2, by rfl, ?_⟩
    walk_at "q"
    refine ⟨rfl, rfl, ?_⟩
    refine ⟨x, so, ag, bt, z, bs, ts, p, l', rfl, o, F16.key, bb, F16.bt_, by omega, tb, hag16, pok, fun sv H17 nsv k17 hag17 hsv17 => ?_⟩
    have sw17 := F16.sw_.new hag16 k17
    obtain ⟨e1, c1, p1, h1, _, _⟩ := id sw17.ex
    obtain ⟨e2, c2, p2, h2, _, _⟩ := id hsv17.ex
    refine ⟨⟨sw, sv, _, _, _, _, rfl, rfl, h1, h2, so, z, _, _, sw17, hsv17⟩, fun H18 e18 => ?_⟩
    walk_at "q"
    exact ⟨_, _, rfl, like_bl _ _ _, fun H19 _ => h H19⟩
end
end K20

set_option Elab.async false
set_option linter.all false
set_option maxRecDepth 100000
set_option maxHeartbeats 4000000
namespace K20
open PySem PySem.Spec PyProof.Rows L2
section
variable {P : Program} {w : World} {K : Fr} {mg : Str → Option Value} {base : Heap}
theorem all_ok (T : Txt K mg) (hP : PTop P) {fd : FuncData} (hF : C8.Fun K "law" "law" (top 83) 1050 fd) : FnOk P w K mg base C8.CX0 10 1050 fd ["_law_script"] (spLaw K) := by
  have c_any_number := ok_any_number (P := P) (w := w) (base := base) T
  have c_is_number := ok_is_number (P := P) (w := w) (base := base) T c_any_number
  have c_is_bit := ok_is_bit (P := P) (w := w) (base := base) T c_is_number
  have c_is_row := ok_is_row (P := P) (w := w) (base := base) T
  have c_check_bits := ok_check_bits (P := P) (w := w) (base := base) T c_is_row c_is_bit
  have c_is_whole := ok_is_whole (P := P) (w := w) (base := base) T
  have c_is_number_list := ok_is_number_list (P := P) (w := w) (base := base) T c_any_number
  have g_modulus := ok_modulus (P := P) (w := w) (base := base) T
  have c_Sizes := ok_Sizes (P := P) (w := w) (base := base) T c_is_number
  have c_Sizes_eq := ok_Sizes_eq (P := P) (w := w) (base := base) T
  have c_lane_width := ok_lane (P := P) (w := w) (base := base) T g_modulus
  have c_packed := ok_packed (P := P) (w := w) (base := base) T
  have c_unpacked := ok_unpacked (P := P) (w := w) (base := base) T
  have c_Cover := ok_Cover (P := P) (w := w) (base := base) T c_is_row c_any_number g_modulus
  have c_mask := ok_mask (P := P) (w := w) (base := base) T
  have c_centered := ok_centered (P := P) (w := w) (base := base) T g_modulus
  have c_digits := ok_digits (P := P) (w := w) (base := base) T g_modulus
  have c_Poly := ok_Poly (P := P) (w := w) (base := base) T c_is_row c_any_number g_modulus
  have c_Cover_eq := ok_Cover_eq (P := P) (w := w) (base := base) T c_Sizes_eq
  have c_Switch_eq := ok_Switch_eq (P := P) (w := w) (base := base) T c_Sizes_eq c_Cover_eq
  have c_Switch := ok_Switch (P := P) (w := w) (base := base) T c_lane_width c_packed c_mask
  have c_advance := ok_advance (P := P) (w := w) (base := base) T
  have c_Mresidue := ok_Mresidue (P := P) (w := w) (base := base) T g_modulus c_advance
  have c_Mnoise := ok_Mnoise (P := P) (w := w) (base := base) T c_advance
  have c_Made := ok_Made (P := P) (w := w) (base := base) T c_any_number
  have c_Mtwin := ok_Mtwin (P := P) (w := w) (base := base) T c_Made
  have c_Listed := ok_Listed (P := P) (w := w) (base := base) T c_is_number_list
  have c_Lresidue := ok_Lresidue (P := P) (w := w) (base := base) T g_modulus
  have c_Lnoise := ok_Lnoise (P := P) (w := w) (base := base) T
  have c_Ltwin := ok_Ltwin (P := P) (w := w) (base := base) T c_Listed
  have c_Key := ok_Key (P := P) (w := w) (base := base) T c_check_bits c_Poly
  have c_masked := ok_masked (P := P) (w := w) (base := base) T
  have c_cover_of := ok_cover_of (P := P) (w := w) (base := base) T c_Cover c_masked c_Mresidue c_Lresidue c_Mnoise c_Lnoise
  have c_switch_from := ok_switch_from (P := P) (w := w) (base := base) T c_check_bits c_cover_of c_Switch
  have c_phase := ok_phase (P := P) (w := w) (base := base) T c_Sizes_eq c_centered c_masked c_mask
  have c_led0 := ok_led (P := P) (w := w) (base := base) T hP c_is_whole c_digits c_unpacked c_Cover
  have c_law_draw := ok_draw (P := P) (w := w) (base := base) T
  have c_law_bag := ok_bag (P := P) (w := w) (base := base) T
  have c_law_of := ok_of (P := P) (w := w) (base := base) T c_law_draw
  have c_law_great := ok_great (P := P) (w := w) (base := base) T c_law_draw
  have c_law_any := ok_any (P := P) (w := w) (base := base) T c_law_draw c_law_great
  have c_law_spot := ok_spot (P := P) (w := w) (base := base) T c_law_draw c_law_great
  have c_law_bits := ok_bits2 (P := P) (w := w) (base := base) T c_law_draw
  have c_law_numbers := ok_numbers (P := P) (w := w) (base := base) T c_law_draw c_law_any
  have c_law_noises := ok_noises (P := P) (w := w) (base := base) T c_law_draw c_law_any
  have c_law_row := ok_row (P := P) (w := w) (base := base) T c_law_draw c_law_any c_law_spot
  have c_law_sizes := ok_sizes2 (P := P) (w := w) (base := base) T c_law_draw
  have c_law_size_of := ok_size_of (P := P) (w := w) (base := base) T c_Sizes
  have c_law_mid := ok_mid (P := P) (w := w) (base := base) T
  have c_law_step := ok_step (P := P) (w := w) (base := base) T
  have c_law_residue := ok_residue2 (P := P) (w := w) (base := base) T c_law_step
  have c_law_noise := ok_noise2 (P := P) (w := w) (base := base) T c_law_step
  have c_law_split := ok_split (P := P) (w := w) (base := base) T
  have c_law_phase := ok_lphase (P := P) (w := w) (base := base) T c_law_mid
  have c_law_own_cover := ok_own_cover (P := P) (w := w) (base := base) T c_law_residue c_law_noise
  have c_law_own_switch := ok_own_switch (P := P) (w := w) (base := base) T c_law_own_cover
  have c_law_own_led := ok_own_led (P := P) (w := w) (base := base) T c_law_split
  have c_law_pen := ok_pen (P := P) (w := w) (base := base) T c_law_draw c_law_any c_law_numbers c_law_noises c_Made c_is_number_list
  have c_law_like := cal_like (P := P) (w := w) (base := base) T 2
  have c_law_cover_is := ok_cover_is (P := P) (w := w) (base := base) T c_law_like c_Sizes_eq c_mask
  obtain ⟨c_led, c_ledK⟩ := led_calls (P := P) (w := w) (base := base) T c_led0
  have c_law_list_refused := ok_list_refused (P := P) (w := w) (base := base) T c_led
  have c_law_body_refused := ok_body_refused (P := P) (w := w) (base := base) T c_led
  have c_law_wrong := ok_wrong (P := P) (w := w) (base := base) T c_law_draw c_law_of c_law_any c_law_list_refused c_law_body_refused
  have c_law_lead_fits := ok_lead_fits (P := P) (w := w) (base := base) T c_led c_ledK c_law_row c_law_draw c_law_any c_law_spot c_law_own_led c_law_cover_is c_law_size_of c_law_like c_phase c_law_phase c_law_mid
  exact ok_law_k20 T c_law_bag c_law_sizes c_law_size_of c_law_bits c_Key c_law_pen c_law_draw c_Mtwin c_Ltwin c_switch_from c_law_own_switch c_law_lead_fits c_law_wrong c_law_like c_Switch_eq hF
end
end K20

set_option Elab.async false
set_option linter.all false
set_option maxRecDepth 100000
set_option maxHeartbeats 0
namespace K20
open PySem PySem.Spec PyProof.Rows L2
theorem txt_of {K : Fr} {h : Heap} {mg : Str → Option Value} (X : K.In h) (G : h.Ns mainGlobals mg) (c : SaysZ facts defsZ K) : Txt K mg :=
  ⟨fc_glo X G (c.fact 0),
   fc_glo X G (c.fact 1),
   fc_glo X G (c.fact 2),
   fc_glo X G (c.fact 3),
   fc_glo X G (c.fact 4),
   fc_glo X G (c.fact 5),
   fc_glo X G (c.fact 6),
   fc_glo X G (c.fact 7),
   fc_glo X G (c.fact 8),
   fc_glo X G (c.fact 9),
   fc_glo X G (c.fact 10),
   fc_glo X G (c.fact 11),
   fc_glo X G (c.fact 12),
   fc_glo X G (c.fact 13),
   fc_glo X G (c.fact 14),
   fc_glo X G (c.fact 15),
   fc_glo X G (c.fact 16),
   fc_glo X G (c.fact 17),
   fc_glo X G (c.fact 18),
   fc_glo X G (c.fact 19),
   fc_glo X G (c.fact 20),
   fc_glo X G (c.fact 21),
   fc_glo X G (c.fact 22),
   fc_glo X G (c.fact 23),
   fc_glo X G (c.fact 24),
   fc_glo X G (c.fact 25),
   fc_glo X G (c.fact 26),
   fc_glo X G (c.fact 27),
   fc_glo X G (c.fact 28),
   fc_glo X G (c.fact 29),
   fc_glo X G (c.fact 30),
   fc_glo X G (c.fact 31),
   fc_glo X G (c.fact 32),
   fc_glo X G (c.fact 33),
   fc_glo X G (c.fact 34),
   fc_glo X G (c.fact 35),
   fc_glo X G (c.fact 36),
   fc_glo X G (c.fact 37),
   fc_glo X G (c.fact 38),
   fc_glo X G (c.fact 39),
   fc_glo X G (c.fact 40),
   fc_glo X G (c.fact 41),
   fc_cls (c.fact 42),
   fc_mkr (c.fact 43),
   fc_prop (c.fact 44),
   fc_find (c.fact 45),
   fc_noat (c.fact 46),
   fc_noat (c.fact 47),
   fc_noat (c.fact 48),
   fc_noat (c.fact 49),
   fc_noat (c.fact 50),
   fc_noat (c.fact 51),
   fc_ins (fc_cls (c.fact 42)) (c.fact 52),
   fc_glo X G (c.fact 53),
   fc_cls (c.fact 54),
   fc_mkr (c.fact 55),
   fc_meth (c.fact 56),
   fc_find (c.fact 57),
   fc_noat (c.fact 58),
   fc_noat (c.fact 59),
   fc_noat (c.fact 60),
   fc_ins (fc_cls (c.fact 54)) (c.fact 61),
   fc_glo X G (c.fact 62),
   fc_cls (c.fact 63),
   fc_mkr (c.fact 64),
   fc_noat (c.fact 65),
   fc_noat (c.fact 66),
   fc_glo X G (c.fact 67),
   fc_cls (c.fact 68),
   fc_mkr (c.fact 69),
   fc_meth (c.fact 70),
   fc_find (c.fact 71),
   fc_noat (c.fact 72),
   fc_noat (c.fact 73),
   fc_noat (c.fact 74),
   fc_noat (c.fact 75),
   fc_noat (c.fact 76),
   fc_ins (fc_cls (c.fact 68)) (c.fact 77),
   fc_glo X G (c.fact 78),
   fc_cls (c.fact 79),
   fc_mkr (c.fact 80),
   fc_meth (c.fact 81),
   fc_meth (c.fact 82),
   fc_meth (c.fact 83),
   fc_meth (c.fact 84),
   fc_noat (c.fact 85),
   fc_glo X G (c.fact 86),
   fc_cls (c.fact 87),
   fc_mkr (c.fact 88),
   fc_meth (c.fact 89),
   fc_meth (c.fact 90),
   fc_meth (c.fact 91),
   fc_noat (c.fact 92),
   fc_noat (c.fact 93),
   fc_noat (c.fact 94),
   fc_noat (c.fact 95),
   fc_glo X G (c.fact 96),
   fc_cls (c.fact 97),
   fc_mkr (c.fact 98),
   fc_meth (c.fact 99),
   fc_meth (c.fact 100),
   fc_meth (c.fact 101),
   fc_meth (c.fact 102),
   fc_noat (c.fact 103),
   fc_noat (c.fact 104),
   fc_noat (c.fact 105),
   fc_noat (c.fact 106),
   fc_ne (c.fact 107),
   fc_free X G (c.fact 108),
   fc_free X G (c.fact 109),
   fc_free X G (c.fact 110),
   fc_free X G (c.fact 111),
   fc_free X G (c.fact 112),
   fc_free X G (c.fact 113),
   fc_free X G (c.fact 114),
   fc_free X G (c.fact 115),
   fc_free X G (c.fact 116),
   fc_free X G (c.fact 117),
   fc_free X G (c.fact 118),
   fc_free X G (c.fact 119),
   fc_free X G (c.fact 120),
   fc_free X G (c.fact 121),
   fc_free X G (c.fact 122),
   fc_free X G (c.fact 123),
   fc_free X G (c.fact 124),
   fc_int X G (c.fact 125),
   fc_int X G (c.fact 126),
   fc_int X G (c.fact 127),
   fc_int X G (c.fact 128),
   fc_glo X G (c.fact 129),
   fc_exc (c.fact 130),
   fc_glo X G (c.fact 131),
   fc_exc (c.fact 132),
   c.def_ 0,
   c.def_ 1,
   c.def_ 2,
   c.def_ 3,
   c.def_ 4,
   c.def_ 5,
   c.def_ 6,
   c.def_ 7,
   c.def_ 8,
   c.def_ 9,
   c.def_ 10,
   c.def_ 11,
   c.def_ 12,
   c.def_ 13,
   c.def_ 14,
   c.def_ 15,
   c.def_ 16,
   c.def_ 17,
   c.def_ 18,
   c.def_ 19,
   c.def_ 20,
   c.def_ 21,
   c.def_ 22,
   c.def_ 23,
   c.def_ 24,
   c.def_ 25,
   c.def_ 26,
   c.def_ 27,
   c.def_ 28,
   c.def_ 29,
   c.def_ 30,
   c.def_ 31,
   c.def_ 32,
   c.def_ 33,
   c.def_ 34,
   c.def_ 35,
   c.def_ 36,
   c.def_ 37,
   c.def_ 38,
   c.def_ 39,
   c.def_ 40,
   c.def_ 41,
   c.def_ 42,
   c.def_ 43,
   c.def_ 44,
   c.def_ 45,
   c.def_ 46,
   c.def_ 47,
   c.def_ 48,
   c.def_ 49,
   c.def_ 50,
   c.def_ 51,
   c.def_ 52,
   c.def_ 53,
   c.def_ 54,
   c.def_ 55,
   c.def_ 56,
   c.def_ 57,
   c.def_ 58,
   c.def_ 59,
   c.def_ 60,
   c.def_ 61,
   c.def_ 62,
   c.def_ 63,
   c.def_ 64,
   c.def_ 65,
   c.def_ 66⟩
theorem facts_law {P : Program} {w : World} {K : Fr} {h : Heap} {mg : Str → Option Value} {f : Addr} (hP : PTop P) (X : K.In h) (G : h.Ns mainGlobals mg) (hfa : mg ("law" : Str) = some (.ref f)) (c : SaysZ facts defsZ K) :
    ∃ fd : FuncData, (∀ (s : Shared) (v : Value), BindsTo s fd ⟨[v], []⟩ [("_law_script", v)]) ∧ ∀ base : Heap, K.In base → base.Ns mainGlobals mg → FnOk P w K mg base C8.CX0 10 f fd ["_law_script"] (spLaw K) := by
  have T := txt_of X G c
  have e := hfa.symm.trans T.g_law
  cases e
  obtain ⟨fd, hF, df, kV, doc, pm, an, ct, efd⟩ := T.f_law.fun_
  refine ⟨fd, fun s v => ?_, fun base _ _ => all_ok T hP hF⟩
  subst efd
  exact .of_eq rfl
theorem ptop : PTop PySem.Challenge.pw_veiledgates_k20_whole_leading_keeps_phas := ⟨by decide +kernel, by decide +kernel⟩
end K20
open PySem PySem.W PySem.Calls PyProof.Rows
theorem PySem.Challenge.cw_veiledgates_k20_whole_leading_keeps_phas_holds : PySem.Challenge.rw_veiledgates_k20_whole_leading_keeps_phas.Holds := by
  w_on; o_law
  refine HandSHeadRun.head_any (r := OpenLaw.row PySem.Challenge.rw_veiledgates_k20_whole_leading_keeps_phas) (q := view (OpenLaw.row PySem.Challenge.rw_veiledgates_k20_whole_leading_keeps_phas).prog [83]) (H := K20.hk) (ob := K20.ob) (M := 8100) (loose := K20.looseN) (d := HandSHeadRun.topDef (OpenLaw.row PySem.Challenge.rw_veiledgates_k20_whole_leading_keeps_phas).prog 83) (kwd := []) K20.ob_eq
    (by kernel_rfl) (fun s => by kernel_rfl) K20.run (by kernel_rfl) (by kernel_rfl) (by kernel_rfl) (by rfl) (by first | assumption | decide +kernel) (by decide +kernel) ⟨rfl, rfl, rfl, rfl, rfl, by decide +kernel⟩ ?hw ?hc
  case hw => w_witness2
  case hc =>
    refine L2.walk_ofE (l := PySem.Challenge.rw_veiledgates_k20_whole_leading_keeps_phas) (n := 63) (k := 10) (x := "_law_script") (CX := C8.CX0) rfl (by decide) (by kernel_rfl) ⟨rfl, by decide, by decide⟩ ?F (fun _ _ _ _ z => z)
    intro w mg fa h Y G hmg0
    obtain ⟨K, KX, c⟩ := Y
    have hmg : mg ("law" : PySem.Str) = some (.ref fa) := by
      have e : (HandSHeadRun.topDef (OpenLaw.row PySem.Challenge.rw_veiledgates_k20_whole_leading_keeps_phas).prog 83).name = ("law" : PySem.Str) := by kernel_rfl
      rw [← e]
      exact hmg0
    obtain ⟨fd, hb, hF⟩ := K20.facts_law (P := (PySem.Challenge.rw_veiledgates_k20_whole_leading_keeps_phas).prog) (w := w) K20.ptop KX G hmg c
    exact ⟨K, fd, K20.spLaw K, KX, hb, fun H a ns hl _ hS => ⟨a, ns, rfl, hS, fun _ => rfl⟩, hF⟩

