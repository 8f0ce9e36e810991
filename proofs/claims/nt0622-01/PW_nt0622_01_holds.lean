import PyProof.Rows.All
import Wide.All
import OpenK.AllK
import Wide.FinOn
import Lean
import PySem.Challenge.RW_nt0622_01
set_option Elab.async false
set_option genSizeOf false
set_option genInjectivity false
set_option bootstrap.genMatcherCode false
set_option compiler.extract_closed false
set_option linter.all false
set_option maxHeartbeats 1000000
theorem Mine.h0.tw16525849080163358316 : True := trivial
open PySem PySem.W PyProof.Rows in
set_option Elab.async true in
set_option maxRecDepth 100000 in
set_option maxHeartbeats 0 in
theorem Mine.h0 (h : PySem.Challenge.rw_nt0622_01.row.wellSaid = true → PySem.Challenge.rw_nt0622_01.row.Holds) : PySem.Challenge.rw_nt0622_01.Holds := by
  w_on
  o_law
  exact h ‹_›
theorem Mine.qa {b c : Nat} (e : Nat.ble b c = true) : b ≤ c := Nat.le_of_ble_eq_true e
theorem Mine.q1 {a b c : Nat} (h : a ≤ OfNat.ofNat b) (e : Nat.ble b c = true) : a ≤ c := Nat.le_trans h (Nat.le_of_ble_eq_true e)
theorem Mine.q2 {a b c k : Nat} (h : a ≤ OfNat.ofNat b) (e : Nat.ble (b + k) c = true) : a + k ≤ c := Nat.le_trans (Nat.add_le_add_right h k) (Nat.le_of_ble_eq_true e)
theorem Mine.q22 {a b c k i : Nat} (h : a ≤ OfNat.ofNat b) (e : Nat.ble (b + k + i) c = true) : a + k + i ≤ c := Nat.le_trans (Nat.add_le_add_right (Nat.add_le_add_right h k) i) (Nat.le_of_ble_eq_true e)
theorem Mine.q23 {a b c k i j : Nat} (h : a ≤ OfNat.ofNat b) (e : Nat.ble (b + k + i + j) c = true) : a + k + i + j ≤ c := Nat.le_trans (Nat.add_le_add_right (Nat.add_le_add_right (Nat.add_le_add_right h k) i) j) (Nat.le_of_ble_eq_true e)
theorem Mine.q3 {a m b c : Nat} (h : a ≤ m) (h2 : m ≤ OfNat.ofNat b) (e : Nat.ble b c = true) : a ≤ c := Nat.le_trans h (Nat.le_trans h2 (Nat.le_of_ble_eq_true e))
theorem Mine.q4 {a m b c k : Nat} (h : a ≤ m) (h2 : m ≤ OfNat.ofNat b) (e : Nat.ble (b + k) c = true) : a + k ≤ c := Nat.le_trans (Nat.add_le_add_right (Nat.le_trans h h2) k) (Nat.le_of_ble_eq_true e)
theorem Mine.q5 {a m k : Nat} (h : a ≤ m) : a ≤ m + k := Nat.le_trans h (Nat.le_add_right m k)
theorem Mine.q6 {a m i k : Nat} (h : a ≤ m + OfNat.ofNat i) (e : Nat.ble i k = true) : a ≤ m + k := Nat.le_trans h (Nat.add_le_add_left (Nat.le_of_ble_eq_true e) m)
theorem Mine.l1 {n a b : Nat} (e : Nat.ble a b = true) : n + a ≤ n + b := Nat.add_le_add_left (Nat.le_of_ble_eq_true e) n
theorem Mine.l2 {n a b c : Nat} (e : Nat.ble (a + c) b = true) : n + a + c ≤ n + b := by rw [Nat.add_assoc]; exact Mine.l1 e
theorem Mine.l4 {n a b c : Nat} (e : Nat.ble a (b + c) = true) : n + a ≤ n + b + c := by rw [Nat.add_assoc n b]; exact Mine.l1 e
theorem Mine.l5 {n a b c d : Nat} (e : Nat.ble (a + d) (b + c) = true) : n + a + d ≤ n + b + c := by rw [Nat.add_assoc n b]; exact Mine.l2 e
theorem Mine.m1 {n a b : Nat} (e : Nat.ble (a + 1) b = true) : n + a < n + b := Mine.l1 e
theorem Mine.m2 {n a b c : Nat} (e : Nat.ble (a + c + 1) b = true) : n + a + c < n + b := by rw [Nat.add_assoc]; exact Mine.m1 e
theorem Mine.m3 {n b : Nat} (e : Nat.ble 1 b = true) : n < n + b := Mine.l1 (a := 1) e
theorem Mine.n1 {n a b : Nat} (e : Nat.beq a b = false) : n + a ≠ n + b := fun h => by
  have := Nat.add_left_cancel h
  rw [this, Nat.beq_refl] at e; cases e
theorem Mine.n2 {n a b c : Nat} (e : Nat.beq (a + c) b = false) : n + a + c ≠ n + b := by rw [Nat.add_assoc]; exact Mine.n1 e
theorem Mine.n3 {n a b c : Nat} (e : Nat.beq a (b + c) = false) : n + a ≠ n + b + c := by rw [Nat.add_assoc n b]; exact Mine.n1 e
theorem Mine.n4 {n a b c d : Nat} (e : Nat.beq (a + d) (b + c) = false) : n + a + d ≠ n + b + c := by rw [Nat.add_assoc n b]; exact Mine.n2 e
theorem Mine.n5 {n b : Nat} (e : Nat.beq 0 b = false) : n ≠ n + b := Mine.n1 (a := 0) e
theorem Mine.n6 {n b : Nat} (e : Nat.beq b 0 = false) : n + b ≠ n := Mine.n1 (b := 0) e
section
set_option autoImplicit true
theorem Mine.omz0 {a b : Nat} (h : OfNat.ofNat a = (OfNat.ofNat b : Nat)) (e : Nat.beq a b = false) : False := by
  have h : a = b := h
  rw [h, Nat.beq_refl] at e; cases e
theorem Mine.omz1 {r j k a c : Nat} (h : OfNat.ofNat a ≤ r ∧ r ≤ j) (h2 : j < k) (h3 : k = OfNat.ofNat c) (e : Nat.ble c a = true) : False := absurd h2 (Nat.not_lt.mpr (Nat.le_trans (h3 ▸ Nat.le_of_ble_eq_true e) (Nat.le_trans h.1 h.2)))
theorem Mine.omz2 {q a c : Nat} {R : Prop} (h : OfNat.ofNat a ≤ q ∧ R) (h3 : q = OfNat.ofNat c) (e : Nat.ble (c + 1) a = true) : False := absurd h.1 (Nat.not_le.mpr (h3 ▸ Nat.le_of_ble_eq_true e))
theorem Mine.omz3 {q a c : Nat} {R : Prop} (h : OfNat.ofNat a ≤ q ∧ R) (h3 : OfNat.ofNat c = q) (e : Nat.ble (c + 1) a = true) : False := Mine.omz2 h h3.symm e
theorem Mine.omz4 {q a c : Nat} (h : OfNat.ofNat a ≤ q) (h3 : q = OfNat.ofNat c) (e : Nat.ble (c + 1) a = true) : False := Mine.omz2 ⟨h, trivial⟩ h3 e
theorem Mine.omz6 {n k a b : Nat} (h : n + OfNat.ofNat a ≤ k) (h2 : k = n + OfNat.ofNat b) (e : Nat.ble (b + 1) a = true) : False := absurd h (Nat.not_le.mpr (h2 ▸ Nat.add_lt_add_left (Nat.le_of_ble_eq_true e) n))
theorem Mine.omz7 {k n b : Nat} (h : k ≤ n) (h2 : k = n + OfNat.ofNat b) (e : Nat.ble 1 b = true) : False := absurd h (Nat.not_le.mpr (h2 ▸ Nat.lt_add_of_pos_right (Nat.le_of_ble_eq_true e)))
theorem Mine.omz9 {a b : Nat} (h : a < b) (h2 : a = b) : False := absurd h (h2 ▸ Nat.lt_irrefl _)
theorem Mine.omg1 {a b : Nat} {R : Prop} (h : R ∧ a ≤ b) : a ≤ b := h.2
theorem Mine.omg2 {a b : Nat} {R : Prop} (h : a ≤ b ∧ R) : a ≤ b := h.1
theorem Mine.omg4 {a b c : Nat} (h : a + OfNat.ofNat c ≤ b) : a ≤ b := Nat.le_trans (Nat.le_add_right _ _) h
theorem Mine.omg5 {a b c d : Nat} (h : a + OfNat.ofNat c ≤ b) (e : Nat.ble d c = true) : a + OfNat.ofNat d ≤ b := Nat.le_trans (Nat.add_le_add_left (Nat.le_of_ble_eq_true e) a) h
theorem Mine.omg6 {a b c d : Nat} (h : c + OfNat.ofNat d ≤ b) (h2 : a ≤ c) : a ≤ b := Nat.le_trans h2 (Mine.omg4 h)
theorem Mine.omg8 {a b : Nat} (h : a < b) : a ≤ b := Nat.le_of_lt h
theorem Mine.omg9 {a b c : Nat} (h : a < OfNat.ofNat b) (e : Nat.ble b c = true) : a ≤ c := Nat.le_trans (Nat.le_of_lt h) (Nat.le_of_ble_eq_true e)
theorem Mine.omg11 {a b n : Nat} (h : a ≤ n + OfNat.ofNat k) (h2 : n ≤ OfNat.ofNat b) (e : Nat.ble (b + k) c = true) : a ≤ c := Nat.le_trans h (Nat.le_trans (Nat.add_le_add_right h2 _) (Nat.le_of_ble_eq_true e))
theorem Mine.omg13 {a m c : Nat} (h : a = OfNat.ofNat m) (e : Nat.ble m c = true) : a ≤ c := h ▸ Nat.le_of_ble_eq_true e
theorem Mine.omh1 {k : Int} (h : 0 ≤ k) : k = ↑k.toNat := (Int.toNat_of_nonneg h).symm
theorem Mine.omh2 {k : Int} {R : Prop} (h : 0 ≤ k ∧ R) : k = ↑k.toNat := (Int.toNat_of_nonneg h.1).symm
theorem Mine.omh3 {p : Int} {n : Nat} (h : p.toNat < n) (h2 : 0 ≤ p) : p < ↑n := (Int.toNat_lt h2).mp h
theorem Mine.omh4 {p : Int} {n : Nat} (h : 0 ≤ p ∧ p < ↑n) : p.toNat < n := (Int.toNat_lt h.1).mpr h.2
theorem Mine.omh5 {p : Int} {n : Nat} (h : 0 ≤ p) (h2 : p < ↑n) : p.toNat < n := (Int.toNat_lt h).mpr h2
theorem Mine.omh7 {n : Nat} : (0 : Int) ≤ ↑n := Int.natCast_nonneg n
theorem Mine.omh8 {k : Int} {n : Nat} (h : k = ↑n) : (0 : Int) ≤ k := h ▸ Int.natCast_nonneg n
theorem Mine.omh9 {x : Int} {n : Nat} (h : x < ↑n) (h2 : x = ↑n) : False := absurd h (h2 ▸ Int.lt_irrefl _)
theorem Mine.omt1 {a b : Int} {R S : Prop} (h : 0 ≤ a ∧ R) (h2 : 0 ≤ b ∧ S) (e : a.toNat = b.toNat) : a = b := (Int.toNat_of_nonneg h.1).symm.trans ((congrArg Int.ofNat e).trans (Int.toNat_of_nonneg h2.1))
theorem Mine.omw1 {α : Type} {a b : α} {R : Prop} (h : a ≠ b ∧ R) (e : a = b) : False := h.1 e
theorem Mine.omw2 {α : Type} {a b : α} {R S : Prop} (h : S ∧ a ≠ b ∧ R) (e : a = b) : False := h.2.1 e
theorem Mine.omw3 {α : Type} {a b : α} {R S T : Prop} (h : S ∧ T ∧ a ≠ b ∧ R) (e : a = b) : False := h.2.2.1 e
theorem Mine.omw4 {α : Type} {a b : α} {R S T U : Prop} (h : S ∧ T ∧ U ∧ a ≠ b ∧ R) (e : a = b) : False := h.2.2.2.1 e
theorem Mine.omw5 {α : Type} {a b : α} {R S T U V : Prop} (h : S ∧ T ∧ U ∧ V ∧ a ≠ b ∧ R) (e : a = b) : False := h.2.2.2.2.1 e
theorem Mine.omk1 {k b c m : Nat} (h : b ≤ OfNat.ofNat c) (e : Nat.ble c m = true) : min k b ≤ m := Nat.le_trans (Nat.min_le_right _ _) (Nat.le_trans h (Nat.le_of_ble_eq_true e))
theorem Mine.omk2 {j n : Nat} (h : j < n) : j - 1 < n := Nat.lt_of_le_of_lt (Nat.sub_le _ _) h
theorem Mine.omk4 {a b c : Nat} {R : Prop} (h : a ≤ b ∧ R) : a ≤ b + OfNat.ofNat c := Nat.le_trans h.1 (Nat.le_add_right _ _)
theorem Mine.omk5 {a b c : Nat} {R S : Prop} (h : R ∧ a ≤ b ∧ S) : a ≤ b + OfNat.ofNat c := Nat.le_trans h.2.1 (Nat.le_add_right _ _)
theorem Mine.omk6 {a b : Nat} (e : a + OfNat.ofNat c ≤ OfNat.ofNat b) (h : Nat.ble b (c + m) = true) : a ≤ m := Nat.le_of_add_le_add_right (Nat.le_trans e (Nat.add_comm c m ▸ Nat.le_of_ble_eq_true h))
theorem Mine.omk8 {x y : Nat} : x + (y + 1) ≤ x + y + 1 := Nat.le_refl _
theorem Mine.omk11 {n a b q : Nat} (h : n ≤ OfNat.ofNat a) (h2 : q < l) (h3 : l ≤ OfNat.ofNat b) (e : Nat.ble (a + b) c = true) : n + q ≤ c := Nat.le_trans (Nat.add_le_add h (Nat.le_trans (Nat.le_of_lt h2) h3)) (Nat.le_of_ble_eq_true e)
theorem Mine.omk13 {n b : Nat} {l : Nat} (h2 : l ≤ OfNat.ofNat b) (e : Nat.ble (d + k * b) c = true) : n + OfNat.ofNat d + OfNat.ofNat k * l ≤ n + OfNat.ofNat c := by
  rw [Nat.add_assoc]
  exact Nat.add_le_add_left (Nat.le_trans (Nat.add_le_add_left (Nat.mul_le_mul_left k h2) _) (Nat.le_of_ble_eq_true e)) n
theorem Mine.omk16 {n k : Nat} (h : k ≠ n) (h2 : ¬ k < n) : 1 ≤ k - n := Nat.sub_pos_of_lt (Nat.lt_of_le_of_ne (Nat.not_lt.mp h2) (Ne.symm h))
theorem Mine.omk18 {p : Int} {n : Nat} (h : p.toNat < n) (h2 : 0 ≤ p) : 0 ≤ p ∧ p < ↑n := ⟨h2, (Int.toNat_lt h2).mp h⟩
theorem Mine.omk19 {p : Int} (h : 0 ≤ p) (h2 : p.toNat = OfNat.ofNat c) : p = OfNat.ofNat c := (Int.toNat_of_nonneg h).symm.trans (congrArg Int.ofNat h2)
theorem Mine.omk24 {k n : Nat} (h : n + OfNat.ofNat a ≤ k) (h2 : k = n) (e : Nat.ble 1 a = true) : False := Mine.omz6 (b := 0) h h2 e
theorem Mine.omk26 {n : Nat} (h : (↑n : Int) = 0) : n = 0 := Int.ofNat.inj h
theorem Mine.omk28 {n : Nat} (h : n = 0) (h2 : 0 < n) : False := absurd h2 (h ▸ Nat.lt_irrefl 0)
end
theorem Mine.oinj {α : Type _} {a b : α} {G : Prop} (e : some a = some b) (k : a = b → G) : G := k (Option.some.inj e)
theorem Mine.nsome {α : Type _} {a : α} {G : Prop} (e : some a = none) : G := nomatch e
theorem Mine.oi2 {α : Type _} {x : Option α} {a b : α} {G : Prop} (h : x = some a) (e : x = some b) (k : a = b → G) : G := k (Option.some.inj (h.symm.trans e))
theorem Mine.ns2 {α : Type _} {x : Option α} {a : α} {G : Prop} (h : x = some a) (e : x = none) : G := nomatch h.symm.trans e
namespace Mine
noncomputable section
open PySem.Str renaming ofString → oS
set_option linter.unusedVariables false
set_option linter.unusedSectionVars false
open PySem PySem.W PyProof.Rows PySem.Calls PySem.SeqAt
def zN (k : String) (a : Array Lean.Syntax) : Lean.Syntax := .node .none ("Lean.Parser.Tactic".toName.str k) a
def zMp (f : Nat → Lean.Syntax) : Nat → List Lean.Syntax | 0 => [] | n + 1 => zMp f n ++ [f n]
def zT (k : String) (a : Array Lean.Syntax) : Lean.Syntax := .node .none ("Lean.Parser.Term".toName.str k) a
def zA (s : String) : Lean.Syntax := .atom .none s
def zU (a : Array Lean.Syntax) : Lean.Syntax := .node .none `null a
def zV (l : List Lean.Syntax) (s : String) : Lean.Syntax := zU (l.intersperse (zA s)).toArray
def zC (l : List Lean.Syntax) : Lean.Syntax := zN "tacticSeq" #[zN "tacticSeq1Indented" #[zV l ";"]]
def zS (t : Lean.Syntax) : Lean.Syntax := zC [t]
def zI (s : String) : Lean.Syntax := Lean.mkIdent s.toName
def zW (k : String) : Lean.Syntax := .node .none `PySem.W.tacticWtm_at_ #[zA "wtm_at", Lean.Syntax.mkStrLit ("m." ++ k)]
def zD : Lean.Syntax := zT "hole" #[zA "_"]
def zH (t : Lean.Syntax) : Lean.Syntax := zT "syntheticHole" #[zA "?", t]
def zY : Lean.Syntax := zH (zA "_")
def zB (t : Lean.Syntax) : Lean.Syntax := zT "byTactic" #[zA "by", zS t]
def zR (t : Lean.Syntax) : Lean.Syntax := zN "withReducible" #[zA "with_reducible", zS t]
def zE (k : String) (t : Lean.Syntax) : Lean.Syntax := zN k #[zA k, t]
def zO (k : String) : Lean.Syntax := zE k (zN "optConfig" #[zU #[]])
def zM (k : String) : Lean.Syntax := zN k #[zA k]
def zP (f : Lean.Syntax) (x : Array Lean.Syntax) : Lean.Syntax := if x.isEmpty then f else zT "app" #[f, zU x]
def zF (l : List Lean.Syntax) : Lean.Syntax := zN "first" #[zA "first", zU (l.map fun t => .node .none `group #[zA "|", zS t]).toArray]
def zX (l : List Lean.Syntax) : Lean.Syntax := zN "paren" #[zA "(", zC l, zA ")"]
def zJ (l : String) : Lean.Syntax := zN "simp" #[zA "simp", zN "optConfig" #[zU #[]], zU #[], zU #[zA "only"], zU #[zA "[", zV ((l.splitOn ",").map fun x => zN "simpLemma" #[zU #[], zU #[], zI x]) ",", zA "]"], zU #[]]
def zc' (h : Lean.Syntax) (t : Lean.Syntax) : Lean.Syntax := zX [zN "case" #[zA "case", zU #[zN "caseArg" #[.node .none `Lean.binderIdent #[h], zU #[]]], zA "=>", zS t]]
def zQ (c : String) : Bool × Lean.Syntax := match c with
  | "a" => (true, zR (zM "assumption"))
  | "_" => (true, zM "assumption")
  | "o" => (true, zO "omega")
  | "d" => (true, zO "decide")
  | "c" => (true, zM "constructor")
  | "l" => (true, .node .none `tacticKernel_rfl #[zA "kernel_rfl"])
  | "r" => (true, zM "tacticRfl")
  | "q" => (true, zN "withUnfoldingAll" #[zA "with_unfolding_all", zS (zE "exact" (zI "rfl"))])
  | "." => (false, zD)
  | "n" => (false, zP (zI "Nd.at_") #[zB (zR (zM "assumption"))])
  | "t" => (false, zP (zI "LawH.toks") #[zB (zR (zM "assumption"))])
  | "m" => (false, zP (zI "Fld.mem") #[zB (zW "fld")])
  | "f" => (false, zT "fun" #[zA "fun", zT "basicFun" #[zU #[zD], zU #[], zA "=>", zY]])
  | c => if c.front == 'r' || c.front.isUpper then (false, zI c) else (true, zW c)
def zG (u : Lean.Name) (e : String) : Lean.Syntax :=
  let p := e.splitOn "/"
  let n := (p.head!.drop 1).toString
  let y := p.tail
  let m (i : Nat) : Lean.Syntax := Lean.mkIdent (u.str (toString i))
  let q (i : Nat) := zQ (y.getD i "")
  let x := (zMp (fun i => if (q i).1 then zH (m i) else (q i).2) y.length).toArray
  let g (t : Lean.Syntax) : Lean.Syntax := zX (zE "refine'" t :: zMp (fun i => if (q i).1 then zc' (m i) (q i).2 else zM "skip") y.length)
  let f := zI n
  match e.front with
  | '!' => g (zP (zI "aA4") #[zP f (x.push zY), zI "rfl"])
  | '=' => g (zP f x)
  | '-' => zR (g (zP f x))
  | '~' => zR (g (zP f (x.push zY)))
  | '+' => zW n
  | '@' => zR (zM "assumption")
  | '#' => zO "omega"
  | '*' => zM "tacticRfl"
  | ',' => zM "contradiction"
  | '<' => zX [zN "simp" #[zA "simp", zN "optConfig" #[zU #[]], zU #[], zU #[], zU #[], zU #[]], zM "done"]
  | '$' => zE "refine" (zP f x)
  | '[' => zX [zJ (n.drop 1).toString, if n.front == 'd' then zM "done" else if n.front == 'a' then zR (zM "assumption") else zW "side"]
  | '>' => zE "refine" (zP f ((zMp (fun i => if (q i).1 then zB (q i).2 else (q i).2) y.length).toArray.push zY))
  | '^' => zX [zR (zE "refine" (zT "typeAscription" #[zT "hygienicLParen" #[zA "(", .node .none `hygieneInfo #[Lean.mkIdent .anonymous]], zY, zA ":", zU #[zP f (List.replicate y.head!.toNat! zD).toArray], zA ")"])), zW y.tail.head!]
  | '%' => zR (zN "tacticRepeat_" #[zA "repeat", zS (zF [zE "exact" (zI (n ++ ".here")), zE "apply" (zI (n ++ ".there"))])])
  | '&' => let v (c : Char) : Lean.Syntax := Lean.mkIdent (u.str c.toString)
    zX (zE "refine'" (zP f (zMp (fun i => zH (v (y.head!.toList.getD i 'h'))) y.head!.length ++ [zY]).toArray) :: zMp (fun i => let t := y.tail.getD i ""; zc' (v t.front) (zQ (t.drop 1).toString).2) y.tail.length)
  | _ => g (zP (zI p.head!) (x.push zY))
def zK (f : String) (e : List Lean.Syntax) (u : Lean.Name) : Lean.Syntax := zX [zE "refine" (zP (zI f) (e ++ [zT "fun" #[zA "fun", zT "basicFun" #[zU #[Lean.mkIdent u], zU #[], zA "=>", zY]]]).toArray), zN "subst" #[zA "subst", zU #[Lean.mkIdent u]]]
theorem e1 {α0 : Sort _} {P : α0 → Prop} {G : Prop} (h : ∃ x, P x) (k : ∀ x, P x → G) : G := h.elim k
theorem e2 {α0 α1 : Sort _} {P : α0 → α1 → Prop} {G : Prop} (h : ∃ x y, P x y) (k : ∀ x y, P x y → G) : G := h.elim fun x h => e1 h (k x)
theorem e3 {α0 α1 α2 : Sort _} {P : α0 → α1 → α2 → Prop} {G : Prop} (h : ∃ x y z, P x y z) (k : ∀ x y z, P x y z → G) : G := h.elim fun x h => e2 h (k x)
theorem e4 {α0 α1 α2 α3 : Sort _} {P : α0 → α1 → α2 → α3 → Prop} {G : Prop} (h : ∃ x y z u, P x y z u) (k : ∀ x y z u, P x y z u → G) : G := h.elim fun x h => e3 h (k x)
theorem e5 {α0 α1 α2 α3 α4 : Sort _} {P : α0 → α1 → α2 → α3 → α4 → Prop} {G : Prop} (h : ∃ x y z u v, P x y z u v) (k : ∀ x y z u v, P x y z u v → G) : G := h.elim fun x h => e4 h (k x)
theorem a2 {A B G : Prop} (h : A ∧ B) (k : A → B → G) : G := k h.1 h.2
theorem a3 {A B C G : Prop} (h : A ∧ B ∧ C) (k : A → B → C → G) : G := a2 h.2 (k h.1)
theorem a4 {A B C D G : Prop} (h : A ∧ B ∧ C ∧ D) (k : A → B → C → D → G) : G := a3 h.2 (k h.1)
theorem a5 {A B C D E G : Prop} (h : A ∧ B ∧ C ∧ D ∧ E) (k : A → B → C → D → E → G) : G := a4 h.2 (k h.1)
theorem a6 {A B C D E H G : Prop} (h : A ∧ B ∧ C ∧ D ∧ E ∧ H) (k : A → B → C → D → E → H → G) : G := a5 h.2 (k h.1)
theorem a7 {A B C D E H I G : Prop} (h : A ∧ B ∧ C ∧ D ∧ E ∧ H ∧ I) (k : A → B → C → D → E → H → I → G) : G := a6 h.2 (k h.1)
theorem a8 {A B C D E H I J G : Prop} (h : A ∧ B ∧ C ∧ D ∧ E ∧ H ∧ I ∧ J) (k : A → B → C → D → E → H → I → J → G) : G := a7 h.2 (k h.1)
theorem a9 {A B C D E H I J K G : Prop} (h : A ∧ B ∧ C ∧ D ∧ E ∧ H ∧ I ∧ J ∧ K) (k : A → B → C → D → E → H → I → J → K → G) : G := a8 h.2 (k h.1)
theorem a10 {A B C D E H I J K L G : Prop} (h : A ∧ B ∧ C ∧ D ∧ E ∧ H ∧ I ∧ J ∧ K ∧ L) (k : A → B → C → D → E → H → I → J → K → L → G) : G := a9 h.2 (k h.1)
theorem a11 {A B C D E H I J K L M G : Prop} (h : A ∧ B ∧ C ∧ D ∧ E ∧ H ∧ I ∧ J ∧ K ∧ L ∧ M) (k : A → B → C → D → E → H → I → J → K → L → M → G) : G := a10 h.2 (k h.1)
theorem a12 {A B C D E H I J K L M N G : Prop} (h : A ∧ B ∧ C ∧ D ∧ E ∧ H ∧ I ∧ J ∧ K ∧ L ∧ M ∧ N) (k : A → B → C → D → E → H → I → J → K → L → M → N → G) : G := a11 h.2 (k h.1)
def zOb (u : Lean.Name) (h : Lean.Syntax) (ps : List Lean.Syntax) (o : Lean.Syntax) : Lean.Syntax :=
  let n := ps.length
  let nm (i : Nat) : Lean.Syntax := Lean.mkIdent ({ Lean.extractMacroScopes u with name := .mkSimple s!"o{i}" }.review)
  let p (i : Nat) : Lean.Syntax := ps.getD i .missing
  let s (i : Nat) : Lean.Syntax := if (p i)[1].getNumArgs == 0 && (p i)[0][0].getNumArgs == 1 then (p i)[0][0][0] else p i
  let k (i : Nat) : String := (s i).getKind.getString!
  let e (i : Nat) : Lean.Syntax := zN "elimTarget" #[zU #[], nm i]
  let b (i : Nat) : Lean.Syntax := if k i == "one" && (s i)[0].getId != `rfl then (s i)[0] else if k i == "ignore" then zD else nm i
  let ob (q : Lean.Syntax) (i : Nat) : Lean.Syntax := zN "obtain" #[zA "obtain", zU #[q], zU #[], zU #[zA ":=", zU #[nm i]]]
  let post (i : Nat) : Lean.Syntax := if !(b i).isIdent || k i == "one" && (s i)[0].getId != `rfl then zM "skip" else if k i == "one" then zF [zN "subst" #[zA "subst", zU #[nm i]], zN "cases" #[zA "cases", zU #[e i], zU #[], zU #[]]] else if k i == "tuple" then ob (p i)[0] i else zN "rcases" #[zA "rcases", zU #[e i], zU #[zA "with", p i]]
  let step (l : String) (d : Nat) (i : Nat) : Lean.Syntax :=
    let i := n - 1 - i
    zX ([zE "refine" (zP (zI s!"{l}{i + d}") #[h, zY]), if h.isIdent then zN "tacticTry_" #[zA "try", zS (zN "clear" #[zA "clear", zU #[h]])] else zM "skip", zE "refine" (zT "fun" #[zA "fun", zT "basicFun" #[zU (zMp b i ++ [if i + 1 == n then b i else nm i]).toArray, zU #[], zA "=>", zY]])] ++ zMp post i ++ [if i + 1 == n then post i else ob (zN "rcasesPatMed" #[zU #[.node .none `Lean.Parser.Tactic.rcasesPat.tuple #[zA "⟨", zV (ps.drop i) ",", zA "⟩"]]]) i])
  zF (zMp (step "Mine.e" 0) (n - 1) ++ zMp (step "Mine.a" 1) (n - 1) ++ [o])
theorem aU4 {a b : Nat} {Q : Prop} (e : Nat.ble a b = true) (q : Q) : Nat.ble a b = true ∧ Q := ⟨e, q⟩
local macro_rules | `(tactic| wtm_at $s:str) => do
  let some l := ("m.omega @ -Mine.qa/q -Mine.q1/_/q -Mine.q2/_/q -Mine.q22/_/q -Mine.q23/_/q -Mine.l1/q -Mine.l2/q -Mine.l4/q -Mine.l5/q -Nat.le_add_right/./. -Mine.m1/q -Mine.m2/q -Mine.m3/q -Mine.n1/q -Mine.n2/q -Mine.n3/q -Mine.n4/q -Mine.n5/q -Mine.n6/q -Mine.q3/_/_/q -Mine.q4/_/_/q -Mine.q5/_ -Mine.q6/_/q -Mine.omz0/_/q -Mine.omz1/_/_/_/q -Mine.omz2/_/_/q -Mine.omz3/_/_/q -Mine.omz4/_/_/q -Mine.omz6/_/_/q -Mine.omz7/_/_/q -Mine.omz9/_/_ -Mine.omg1/_ -Mine.omg2/_ -Mine.omg4/_ -Mine.omg5/_/q -Mine.omg6/_/_ -Mine.omg8/_ -Mine.omg9/_/q -Mine.omg11/_/_/q -Mine.omg13/_/q -Mine.omh1/_ -Mine.omh2/_ -Mine.omh3/_/_ -Mine.omh4/_ -Mine.omh5/_/_ -Mine.omh7 -Mine.omh8/_ -Mine.omh9/_/_ -Mine.omw1/_/_ -Mine.omw2/_/_ -Mine.omw3/_/_ -Mine.omw4/_/_ -Mine.omw5/_/_ -Mine.omk1/_/q -Mine.omk2/_ -Mine.omk4/_ -Mine.omk5/_ -Mine.omk6/_/q -Mine.omk8 -Mine.omk11/_/_/_/q -Mine.omk13/_/q -Mine.omk16/_/_ -Mine.omk18/_/_ -Mine.omk19/_/_ -Mine.omk24/_/_/q -Mine.omk26/_ -Mine.omk28/_/_ -Mine.omt1/_/_/_ -Nat.le_trans/_/_ , <;m.get -Get.here -gt1 -gt2 -gt3 -gt4 -gt5 -gt6 %Get;m.put -Put.here -pt1 -pt2 -pt3 -pt4 -pt5 -pt6 %Put;m.fld -Fld.here -fl1 -fl2 -fl3 -fl4 -fl5 -fl6 -fl7 -fl8 %Fld;m.cls =aCt =aAn =aNz =aO0;m.fg =aTa -fgT0/c -fgT1/c -fgT2/c -fgT3/c -fgT4/c -fgT5/c -fgT6/c;m.bt -aWg -aQ6 -aU5 -aQ7 -aWi -aWf -aWh -aWe;m.mt -mtT0/c -mtT1/c -mtT2/c -mtT3/c;m.side @ # *;m.dec @ [aBool.not_eq_true',Bool.not_eq_false',Bool.not_not [ddecide_eq_true_eq,decide_eq_false_iff_not,Bool.not_eq_true',Bool.not_eq_false',decide_true,decide_false,aEu,String.reduceEq,not_false_eq_true,not_true_eq_false,List.any_cons,List.any_nil,isStr,Bool.or_false,Bool.or_true,Bool.true_or,Bool.false_or,Bool.not_true,Bool.not_false,Bool.not_not,Bool.and_true,Bool.true_and,Bool.and_false,Bool.false_and,reduceCtorEq,Bool.false_eq_true [sdecide_eq_true_eq,decide_eq_false_iff_not,Bool.not_eq_true',Bool.not_eq_false',decide_true,decide_false,aEu,String.reduceEq,List.any_cons,List.any_nil,isStr,Bool.not_not,Bool.or_false,Bool.false_or;m.ev aNb aB8/get aVu/get aVt aTs/get aT1 aFl aHu aTq/get aEa aNe &aKr/gl/gfg/ll &aPj/gl/gbt/ll aKs/get/l aVx/get aVw aVv aZh aPk aTr aTp aNa aGd &aZg/gl/gfg/ll;m.exs aEb aNj aAw aD1 aPn aPo aTy/get aM2 aPm aAg;m.tv aWa/get aW7/get aW8/get aQ2 aWb aNu aWc;m.sb aPx/a aPu/a aPw/a aKy/a aPv/a aM4/a aZj aZk aZl aZm aNl/a aPy/a aPt/a aPz/a aM5/a aJh/a aPr/a aPs/side/side/a aM3/a/a aW4/a/side/side/a aKz/fld;m.cm aF6/a aLw aLu aLy aLt aLx aLv/rfl aGb/rfl aVs aVr aVq aJc aGa aHq aHr aJa aE8;m.mth &aKx/hcm/mmt/hr/ccls >aBa/PySem.F.plainAttrs_list/PySem.F.slot_list_append/PySem.F.type_list_append/look/rfl >aBa/PySem.F.plainAttrs_list/PySem.F.slot_list_pop/PySem.F.type_list_pop/look/rfl >aBa/PySem.F.plainAttrs_list/PySem.F.slot_list_insert/PySem.F.type_list_insert/look/rfl >aBa/PySem.F.plainAttrs_list/PySem.F.slot_list_index/PySem.F.type_list_index/look/rfl >aBa/PySem.F.plainAttrs_dict/PySem.F.slot_dict_get/PySem.F.type_dict_get/look/rfl >aBa/PySem.F.plainAttrs_dict/PySem.F.slot_dict_items/PySem.F.type_dict_items/look/rfl >aNk/PySem.F.plainAttrs_str/PySem.F.slot_str_join/PySem.F.type_str_join;m.look =LawH.toks/a =LawH.es/a =LawH.run/a =LawH.ow1/a =LawH.ts1/a @ * =aE4/a =aLq/a =aCv/a =aE4/n =aLq/n;m.cl aPi/a/o aPg/a/o aPh/a/o !aFc !aJu !aJl/a/side aLr/Mine.aA2/m !aUj/a/a/a/side !aUm/side !aM9/side !aUk/side !aWo/a/side !aL2/side !aZo !aUi/side !aI7/a !aO3/a !aMc/a !aMd !aMa/a/side !aUh/a/side !aU7/side !aU8/side/side !aU9/side aJ9/a/side !aO8/a/a aVo !aJv aE6/side aHp/side aHn/a/side aDv/side;m.si aQ1/a/side;m.seta aNo aNp aJj aQ0 aNm aNn aNq;m.leaf ^PutQ/4/putq ~aAj ~aN9 ^And/2/and ^Exists/1/ex;m.putq aJg/put;m.ex ~aU1 ~aU2/a/side;m.and &bA0/e/edec &aXy/e/edec &aY0/e/edec &aXz/e/edec aU4/rfl $And.intro/f/f;m.xp ^Ev/7/ev ^Evs/7/evs ^At/5/at ^Sb/6/sb ^CmQ/7/cm ^Tv/7/tv ^Tvs/8/tvs ^Bc/8/bc ^Bi/7/bi ^Mth/9/mth ^Cl/6/cl ^SetA/6/seta ^Si/7/si +leaf;m.evs aTu/get aTv aTt aA7 aAi;m.at &aVb/hcfp/hr/ccls/ffld/pr;m.tvs aJk aM6 aU3 aT4;m.bc aTj aVe;m.bi aVh/side aSy/o/d aVg/o aVf aVi aT0/side;m.go +xp ^Exs/7/exs ~aA9 ~aMu ~aPq".splitOn ";").find? (·.startsWith (s.getString ++ " ")) | Lean.Macro.throwUnsupported
  pure (zF ((l.splitOn " ").tail.map (zG (← Lean.Macro.addMacroScope `z))))
local macro_rules | `(⋯) => pure (zB (.node .none `tacticKernel_rfl #[zA "kernel_rfl"]))
local macro_rules | `(tactic| nofun) => pure (zN "repeat'" #[zA "repeat'", zS (zW "go")])
local macro_rules | `(nofun) => pure (zB (zF [zG `z "=Mine.neT/rfl", zE "exact" (zT "fun" #[zA "fun", zT "basicFun" #[zU #[zI "e"], zU #[], zA "=>", zT "nomatch" #[zA "nomatch", zU #[zI "e"]]]])]))
local macro_rules | `(tactic| decide) => pure (zF [zG `z "=Mine.neT/rfl", zN "fail" #[zA "fail", zU #[]]])
local macro_rules | `(tactic| omega) => pure (zW "omega")
local macro_rules (kind := Lean.Parser.Tactic.obtain) | s => do
  let t := s[1][0][0][0]
  if s[2].getNumArgs != 0 || s[1][0][0].getNumArgs != 1 || s[3][1].getNumArgs != 1 || t.getKind != `Lean.Parser.Tactic.rcasesPat.tuple then Lean.Macro.throwUnsupported
  let h := s[3][1][0]
  pure (zOb (← Lean.Macro.addMacroScope `o) h t[1].getSepArgs.toList (zN "rcases" #[zA "rcases", zU #[zN "elimTarget" #[zU #[], h]], zU #[zA "with", zN "rcasesPatLo" #[s[1][0], zU #[]]]]))
local macro_rules | `(tactic| cases $e:ident) => do pure (zF [zE "exact" (zP (zI "Mine.nsome") #[e]), zK "Mine.oinj" [e] (← Lean.Macro.addMacroScope `h), zN "subst" #[zA "subst", zU #[e]]])
local macro_rules | `(tactic| rwa [$h:term] at $e:ident) => do pure (zF [zE "exact" (zP (zI "Mine.ns2") #[h, e]), zE "exact" (zP (zI "Mine.ns2") #[e, h]), zK "Mine.oi2" [h, e] (← Lean.Macro.addMacroScope `h), zX [zN "rwSeq" #[zA "rw", zN "optConfig" #[zU #[]], zN "rwRuleSeq" #[zA "[", zU #[zN "rwRule" #[zU #[], h]], zA "]"], zU #[zN "location" #[zA "at", zN "locationHyp" #[zU #[e], zU #[]]]]], zN "cases" #[zA "cases", zU #[zN "elimTarget" #[zU #[], e]], zU #[], zU #[]]]])
set_option genCtorIdx false
inductive ZN | v (i : Nat) | n (k : Nat) | a (x y : ZN) | m (k : Nat) (x : ZN)
inductive ZI | c (x : ZN) | u (i : Nat) | w (i : Nat) | n (k : Int) | a (x y : ZI) | s (x y : ZI) | m (k : Int) (x : ZI) | g (x : ZI)
inductive HN | e | h (k : Nat) (l r : ZN) (t : HN)
inductive HI | e | h (k : Nat) (l r : ZI) (t : HI)
section
def zg {α : Type} (z : α) (c : List α) : Nat → α := List.rec (fun _ => z) (fun x _ f i => Nat.casesOn i x f) c
def ZN.d (c : List Nat) (t : ZN) : Nat := ZN.rec (motive := fun _ => Nat) (fun i => zg 0 c i) (fun k => k) (fun _ _ p q => p + q) (fun k _ p => k * p) t
def ZI.d (c : List Nat) (b : List Int) (t : ZI) : Int := ZI.rec (motive := fun _ => Int) (fun x => ((x.d c : Nat) : Int)) (fun i => ((zg 0 c i : Nat) : Int)) (fun i => zg 0 b i) (fun k => k) (fun _ _ p q => p + q) (fun _ _ p q => p - q) (fun k _ p => k * p) (fun _ p => -p) t
def HN.cur (c : List Nat) (G : Prop) (t : HN) : Prop := HN.rec (motive := fun _ => Prop) G (fun _ l r _ p => l.d c ≤ r.d c → p) t
def HI.cur (c : List Nat) (b : List Int) (G : Prop) (t : HI) : Prop := HI.rec (motive := fun _ => Prop) G (fun _ l r _ p => l.d c b ≤ r.d c b → p) t
def zadd (a : List Int) : List Int → List Int := List.rec (fun b => b) (fun x a f b => List.casesOn b (x :: a) (fun y b' => (x + y) :: f b')) a
def zmul (k : Int) (a : List Int) : List Int := List.rec [] (fun x _ f => k * x :: f) a
def zdot (a : List Int) : List Int → Int := List.rec (fun _ => 0) (fun x _ f c => List.casesOn c 0 (fun y c' => x * y + f c')) a
def zun (i : Nat) : List Int := Nat.rec [1] (fun _ l => 0 :: l) i
def zpos (a : List Int) : Bool := List.rec true (fun x _ f => and (decide (0 ≤ x)) f) a
def znul (a : List Int) : Bool := List.rec true (fun x _ f => and (decide (x = 0)) f) a
def ZN.p (t : ZN) : List Int := ZN.rec (motive := fun _ => List Int) (fun i => 0 :: zun i) (fun k => [(k : Int)]) (fun _ _ p q => zadd p q) (fun k _ p => zmul k p) t
def ZI.p (t : ZI) : List Int := ZI.rec (motive := fun _ => List Int) (fun x => x.p) (fun i => 0 :: zun i) (fun i => []) (fun k => [k]) (fun _ _ p q => zadd p q) (fun _ _ p q => zadd p (zmul (-1) q)) (fun k _ p => zmul k p) (fun _ p => zmul (-1) p) t
def ZI.q (t : ZI) : List Int := ZI.rec (motive := fun _ => List Int) (fun x => []) (fun i => []) (fun i => zun i) (fun k => []) (fun _ _ p q => zadd p q) (fun _ _ p q => zadd p (zmul (-1) q)) (fun k _ p => zmul k p) (fun _ p => zmul (-1) p) t
theorem zA4 (x y u v : Int) : (x + y) + (u + v) = (x + u) + (y + v) := by rw [Int.add_assoc, Int.add_assoc, Int.add_left_comm y]
theorem aZf (a : List Int) : zdot a [] = 0 := by cases a <;> rfl
theorem aDg (a : List Int) : ∀ b c, zdot (zadd a b) c = zdot a c + zdot b c := by
  induction a with
  | nil => intro b c; exact (Int.zero_add _).symm
  | cons x a ih =>
    intro b c
    cases b with
    | nil => exact (Int.add_zero _).symm
    | cons y b =>
      cases c with
      | nil => rfl
      | cons z c => exact (congr (congrArg _ (Int.add_mul x y z)) (ih b c)).trans (zA4 _ _ _ _)
theorem aHm (k : Int) (a : List Int) : ∀ c, zdot (zmul k a) c = k * zdot a c := by
  induction a with
  | nil => intro c; exact (Int.mul_zero k).symm
  | cons x a ih =>
    intro c
    cases c with
    | nil => exact (Int.mul_zero k).symm
    | cons z c => exact (congr (congrArg _ (Int.mul_assoc k x z)) (ih c)).trans (Int.mul_add k (x * z) _).symm
theorem aPc (i : Nat) : ∀ c : List Int, zdot (zun i) c = zg 0 c i := by
  induction i with
  | zero => intro c; cases c with
    | nil => rfl
    | cons x c => exact (Int.add_zero _).trans (Int.one_mul x)
  | succ i ih => intro c; cases c with
    | nil => rfl
    | cons x c => exact (congrArg (· + _) (Int.zero_mul x)).trans ((Int.zero_add _).trans (ih c))
theorem aSw (a : List Int) (h : znul a = true) : ∀ c, zdot a c = 0 := by
  induction a with
  | nil => intro c; rfl
  | cons x a ih =>
    intro c
    have ⟨h1, h2⟩ := (Bool.and_eq_true_iff).mp h
    cases c with
    | nil => rfl
    | cons z c => exact (congr (congrArg _ ((congrArg (· * z) (of_decide_eq_true h1)).trans (Int.zero_mul z))) (ih h2 c)).trans (Int.zero_add 0)
def zc (c : List Nat) : List Int := List.rec [] (fun x _ f => (x : Int) :: f) c
theorem aSx (a : List Int) : ∀ (h : zpos a = true) (c : List Nat), 0 ≤ zdot a (zc c) := by
  induction a with
  | nil => intro _ c; exact Int.le_refl 0
  | cons x a ih =>
    intro h c
    have ⟨h1, h2⟩ := (Bool.and_eq_true_iff).mp h
    cases c with
    | nil => exact Int.le_refl 0
    | cons z c => exact Int.add_nonneg (Int.mul_nonneg (of_decide_eq_true h1) (Int.natCast_nonneg z)) (ih h2 c)
theorem bA8 (c : List Nat) : ∀ i, ((zg 0 c i : Nat) : Int) = zg 0 (zc c) i := by
  induction c with
  | nil => intro i; rfl
  | cons x c ih => intro i; cases i with
    | zero => rfl
    | succ i => exact ih i
theorem ZN.eq (c : List Nat) (t : ZN) : ((t.d c : Nat) : Int) = zdot t.p (zc (1 :: c)) :=
  ZN.rec (motive := fun t => ((t.d c : Nat) : Int) = zdot t.p (zc (1 :: c)))
    (fun i => (bA8 c i).trans ((aPc i (zc c)).symm.trans ((Int.zero_add _).symm.trans (congrArg (· + _) (Int.zero_mul _).symm))))
    (fun k => ((Int.add_zero _).trans (Int.mul_one _)).symm)
    (fun x y p q => (Int.natCast_add _ _).trans ((congr (congrArg _ p) q).trans (aDg _ _ _).symm))
    (fun k x p => (Int.natCast_mul _ _).trans ((congrArg _ p).trans (aHm _ _ _).symm)) t
theorem ZI.eq (c : List Nat) (b : List Int) (t : ZI) : t.d c b = zdot t.p (zc (1 :: c)) + zdot t.q b :=
  have M (k : Int) (x : ZI) (p : x.d c b = zdot x.p (zc (1 :: c)) + zdot x.q b) : k * x.d c b = zdot (zmul k x.p) (zc (1 :: c)) + zdot (zmul k x.q) b := by rw [aHm, aHm, p, Int.mul_add]
  ZI.rec (motive := fun t => t.d c b = zdot t.p (zc (1 :: c)) + zdot t.q b)
    (fun x => (ZN.eq c x).trans (Int.add_zero _).symm)
    (fun i => (ZN.eq c (.v i)).trans (Int.add_zero _).symm)
    (fun i => (aPc i b).symm.trans (Int.zero_add _).symm)
    (fun k => ((Int.add_zero _).trans ((Int.add_zero _).trans (Int.mul_one k))).symm)
    (fun x y p q => (congr (congrArg _ p) q).trans ((zA4 _ _ _ _).trans (congr (congrArg _ (aDg _ _ _).symm) (aDg _ _ _).symm)))
    (fun x y p q => (Int.sub_eq_add_neg.trans (congr (congrArg _ p) ((Int.neg_one_mul _).symm.trans (M (-1) y q)))).trans ((zA4 _ _ _ _).trans (congr (congrArg _ (aDg _ _ _).symm) (aDg _ _ _).symm)))
    (fun k x p => M k x p)
    (fun x p => (Int.neg_one_mul _).symm.trans (M (-1) x p)) t
def HI.sum (t : HI) : ZI := HI.rec (motive := fun _ => ZI) (.n 0) (fun k l r _ p => .a (.m k (.s r l)) p) t
def HN.sum (t : HN) : ZI := HN.rec (motive := fun _ => ZI) (.n 0) (fun k l r _ p => .a (.m k (.s (.c r) (.c l))) p) t
def zok (t : ZI) : Bool := and (zpos t.p) (znul t.q)
theorem aTi {c : List Nat} {b : List Int} {t : ZI} (e : zok t = true) : 0 ≤ t.d c b := by
  have ⟨h1, h2⟩ := (Bool.and_eq_true_iff).mp e
  rw [ZI.eq, aSw _ h2, Int.add_zero]
  exact aSx _ h1 _
theorem bA5 {c : List Nat} {b : List Int} (l r : ZI) : ∀ (H : HI) (S : Int), 0 ≤ S → 0 ≤ (r.d c b - l.d c b) - S - H.sum.d c b → H.cur c b (l.d c b ≤ r.d c b) := fun H =>
  HI.rec (motive := fun H => ∀ S : Int, 0 ≤ S → 0 ≤ (r.d c b - l.d c b) - S - H.sum.d c b → H.cur c b (l.d c b ≤ r.d c b))
    (fun S h0 h => by
      have h : 0 ≤ (r.d c b - l.d c b) - S - 0 := h
      rw [Int.sub_zero] at h
      exact Int.le_of_sub_nonneg (Int.le_trans h0 (Int.le_of_sub_nonneg h)))
    (fun k x y t ih S h0 h z => ih (S + k * (y.d c b - x.d c b)) (Int.add_nonneg h0 (Int.mul_nonneg (Int.natCast_nonneg k) (Int.sub_nonneg_of_le z))) (by
      have h : 0 ≤ (r.d c b - l.d c b) - S - (k * (y.d c b - x.d c b) + t.sum.d c b) := h
      rw [Int.sub_sub] at h ⊢
      rw [Int.add_assoc]
      exact h)) H
theorem zi (c : List Nat) (b : List Int) (H : HI) (l r : ZI) (e : zok (.s (.s r l) H.sum) = true) : H.cur c b (l.d c b ≤ r.d c b) :=
  bA5 l r H 0 (Int.le_refl 0) (by rw [Int.sub_zero]; exact aTi e)
theorem bA6 {c : List Nat} (l r : ZN) : ∀ (H : HN) (S : Int), 0 ≤ S → 0 ≤ ((r.d c : Nat) - (l.d c : Nat) : Int) - S - H.sum.d c [] → H.cur c (l.d c ≤ r.d c) := fun H =>
  HN.rec (motive := fun H => ∀ S : Int, 0 ≤ S → 0 ≤ ((r.d c : Nat) - (l.d c : Nat) : Int) - S - H.sum.d c [] → H.cur c (l.d c ≤ r.d c))
    (fun S h0 h => by
      have h : 0 ≤ ((r.d c : Nat) - (l.d c : Nat) : Int) - S - 0 := h
      rw [Int.sub_zero] at h
      exact Int.ofNat_le.mp (Int.le_of_sub_nonneg (Int.le_trans h0 (Int.le_of_sub_nonneg h))))
    (fun k x y t ih S h0 h z => ih (S + k * ((y.d c : Nat) - (x.d c : Nat))) (Int.add_nonneg h0 (Int.mul_nonneg (Int.natCast_nonneg k) (Int.sub_nonneg_of_le (Int.ofNat_le.mpr z)))) (by
      have h : 0 ≤ ((r.d c : Nat) - (l.d c : Nat) : Int) - S - (k * ((y.d c : Nat) - (x.d c : Nat)) + t.sum.d c []) := h
      rw [Int.sub_sub] at h ⊢
      rw [Int.add_assoc]
      exact h)) H
theorem zn (c : List Nat) (H : HN) (l r : ZN) (e : zok (.s (.s (.c r) (.c l)) H.sum) = true) : H.cur c (l.d c ≤ r.d c) :=
  bA6 l r H 0 (Int.le_refl 0) (by rw [Int.sub_zero]; exact aTi e)
theorem zff {P : Prop} (h : 1 ≤ 0) : P := nomatch h
theorem zfi {P : Prop} (h : (1 : Int) ≤ 0) : P := nomatch h
theorem zcl {x y : Nat} (h : x ≤ y) : (x : Int) ≤ y := Int.ofNat_le.mpr h
theorem zct {x y : Nat} (h : x < y) : ((x + 1 : Nat) : Int) ≤ y := Int.ofNat_le.mpr h
theorem zco {x y : Nat} (h : (x : Int) ≤ y) : x ≤ y := Int.ofNat_le.mp h
end
theorem zNl {a b : Nat} (h : ¬ a ≤ b) : b < a := Nat.lt_of_not_le h
theorem zNt {a b : Nat} (h : ¬ a < b) : b ≤ a := Nat.le_of_not_lt h
theorem zIl {a b : Int} (h : ¬ a ≤ b) : b < a := Int.not_le.mp h
theorem zIt {a b : Int} (h : ¬ a < b) : b ≤ a := Int.not_lt.mp h
theorem zr (k : Nat) (P : Int → Prop) (e : ∀ n : Nat, n < k → P n) {x : Int} (h0 : 0 ≤ x) (h1 : x < k) : P x := Int.toNat_of_nonneg h0 ▸ e _ ((Int.toNat_lt h0).mpr h1)
theorem zsb (a b : Nat) : a ≤ a - b + b := Nat.sub_le_iff_le_add.mp (Nat.le_refl _)
section
variable {a b c d e f g : Nat} {i j k l m n : Int} {P Q R S T U V : Prop}
theorem oz0 (h : 0 ≤ i) : i ≠ -1 := fun e => (zff (zco (zi [] [i] (.h 1 (.n 0) (.w 0) (.h 1 (.w 0) (.g (.n 1)) .e)) (.n 1) (.n 0) rfl h (Int.le_of_eq e))))
theorem oz7 (h : 2 < a) : a = a-3+3 := Nat.le_antisymm (zco (zi [a, (a - 3)] [] (.h 1 (.s (.u 0) (.n 3)) (.u 1) .e) (.u 0) (.c (.a (.v 1) (.n 3))) rfl (Int.le_of_eq (Eq.symm (Int.ofNat_sub (zn [a] (.h 1 (.a (.n 2) (.n 1)) (.v 0) .e) (.n 3) (.v 0) rfl h)))))) (zco (zi [(a - 3), a] [] (.h 1 (.u 0) (.s (.u 1) (.n 3)) .e) (.c (.a (.v 0) (.n 3))) (.u 1) rfl (Int.le_of_eq (Int.ofNat_sub (zn [a] (.h 1 (.a (.n 2) (.n 1)) (.v 0) .e) (.n 3) (.v 0) rfl h)))))
theorem oz8 (h : 0 ≤ i ∧ i < (a:Int)) (x : ¬j = i) (y : 0 ≤ j) : ¬Int.toNat j = Int.toNat i := fun e => (x (Int.le_antisymm (zi [(Int.toNat j), (Int.toNat i)] [i, j] (.h 1 (.w 1) (.u 0) (.h 1 (.u 1) (.w 0) (.h 1 (.u 0) (.u 1) .e))) (.w 1) (.w 0) rfl (Int.le_of_eq (Eq.symm (Int.toNat_of_nonneg (zi [] [j] (.h 1 (.n 0) (.w 0) .e) (.n 0) (.w 0) rfl y)))) (Int.le_of_eq (Int.toNat_of_nonneg (zi [] [i] (.h 1 (.n 0) (.w 0) .e) (.n 0) (.w 0) rfl h.1))) (zcl (Nat.le_of_eq e))) (zi [(Int.toNat i), (Int.toNat j)] [i, j] (.h 1 (.u 1) (.w 1) (.h 1 (.w 0) (.u 0) (.h 1 (.u 0) (.u 1) .e))) (.w 0) (.w 1) rfl (Int.le_of_eq (Int.toNat_of_nonneg (zi [] [j] (.h 1 (.n 0) (.w 0) .e) (.n 0) (.w 0) rfl y))) (Int.le_of_eq (Eq.symm (Int.toNat_of_nonneg (zi [] [i] (.h 1 (.n 0) (.w 0) .e) (.n 0) (.w 0) rfl h.1)))) (zcl (Nat.le_of_eq e.symm)))))
theorem oz9 (h : 0 ≤ i) (x : ¬Int.toNat i < a) (y : Int.toNat i-a = 0) : i = (a:Int) := Int.le_antisymm (zi [(Int.toNat i), a, ((Int.toNat i) - a)] [i] (.h 1 (.u 2) (.n 0) (.h 1 (.w 0) (.u 0) (.h 1 (.s (.u 0) (.u 1)) (.u 2) .e))) (.w 0) (.u 1) rfl (zcl (Nat.le_of_eq y)) (Int.le_of_eq (Eq.symm (Int.toNat_of_nonneg (zi [] [i] (.h 1 (.n 0) (.w 0) .e) (.n 0) (.w 0) rfl h)))) (Int.le_of_eq (Eq.symm (Int.ofNat_sub (zn [a, (Int.toNat i)] (.h 1 (.v 0) (.v 1) .e) (.v 0) (.v 1) rfl (zNt x)))))) (zi [(Int.toNat i), a] [i] (.h 1 (.u 1) (.u 0) (.h 1 (.u 0) (.w 0) .e)) (.u 1) (.w 0) rfl (zcl (zNt x)) (Int.le_of_eq (Int.toNat_of_nonneg (zi [] [i] (.h 1 (.n 0) (.w 0) .e) (.n 0) (.w 0) rfl h))))
theorem oz10 (h : ¬Int.toNat i < a) (x : Int.toNat i-a = b+1) : (a:Int) < i := Int.lt_toNat.mp (Nat.lt_of_sub_eq_succ x)
theorem oz12 (h : a = b+1+c) (x : b ≤ d) (y : c ≤ 1) : a ≤ d+2 := zn [c, b, d, a] (.h 1 (.v 3) (.a (.a (.v 1) (.n 1)) (.v 0)) (.h 1 (.v 1) (.v 2) (.h 1 (.v 0) (.n 1) .e))) (.v 3) (.a (.v 2) (.n 2)) rfl (Nat.le_of_eq h) x y
theorem oz13 (h : a = b+1+c) (x : i < (b:Int)) : i < (a:Int) := zi [b, c, a] [i] (.h 1 (.c (.a (.a (.v 0) (.n 1)) (.v 1))) (.u 2) (.h 1 (.a (.w 0) (.n 1)) (.u 0) .e)) (.a (.w 0) (.n 1)) (.u 2) rfl (zcl (Nat.le_of_eq h.symm)) x
theorem oz14 (h : a ≤ b+1 ∧ P) (x : b ≤ c ∧ d ≤ c ∧ Q) : a ≤ c+2 := zn [b, c, a] (.h 1 (.v 2) (.a (.v 0) (.n 1)) (.h 1 (.v 0) (.v 1) .e)) (.v 2) (.a (.v 1) (.n 2)) rfl h.1 x.1
theorem oz15 (h : a = b+1+c) (x : i ≤ (b:Int)) : i < (a:Int) := zi [b, c, a] [i] (.h 1 (.c (.a (.a (.v 0) (.n 1)) (.v 1))) (.u 2) (.h 1 (.w 0) (.u 0) .e)) (.a (.w 0) (.n 1)) (.u 2) rfl (zcl (Nat.le_of_eq h.symm)) x
theorem oz16 (h : i = -1 ∧ P ∧ a ≤ 2) : a ≤ b+2 := zn [a, b] (.h 1 (.v 0) (.n 2) .e) (.v 0) (.a (.v 1) (.n 2)) rfl h.2.2
theorem oz17 (h : a ≤ b) (x : c ≤ 1) : a+c ≤ b+2 := zn [c, a, b] (.h 1 (.v 1) (.v 2) (.h 1 (.v 0) (.n 1) .e)) (.a (.v 1) (.v 0)) (.a (.v 2) (.n 2)) rfl h x
theorem oz18 (h : a = b+1+c) (x : i = (b:Int)) : i < (a:Int) := zi [b, c, a] [i] (.h 1 (.c (.a (.a (.v 0) (.n 1)) (.v 1))) (.u 2) (.h 1 (.w 0) (.u 0) .e)) (.a (.w 0) (.n 1)) (.u 2) rfl (zcl (Nat.le_of_eq h.symm)) (Int.le_of_eq x)
theorem oz19 (h : i = 0) (x : 0 < (a:Int)) : i < (a:Int) := zi [a] [i] (.h 1 (.w 0) (.n 0) (.h 1 (.a (.n 0) (.n 1)) (.u 0) .e)) (.a (.w 0) (.n 1)) (.u 0) rfl (Int.le_of_eq h) x
theorem oz20 (h : i = 1) (x : 1 < (a:Int)) : i < (a:Int) := zi [a] [i] (.h 1 (.w 0) (.n 1) (.h 1 (.a (.n 1) (.n 1)) (.u 0) .e)) (.a (.w 0) (.n 1)) (.u 0) rfl (Int.le_of_eq h) x
theorem oz21 (h : i = j) (x : i < (a:Int)) : j < (a:Int) := zi [a] [i, j] (.h 1 (.w 1) (.w 0) (.h 1 (.a (.w 0) (.n 1)) (.u 0) .e)) (.a (.w 1) (.n 1)) (.u 0) rfl (Int.le_of_eq h.symm) x
theorem oz22 (h : (a:Int) < (a:Int)) : False := zff (zco (zi [a] [] (.h 1 (.a (.u 0) (.n 1)) (.u 0) .e) (.n 1) (.n 0) rfl h))
theorem oz23 (h : i < (a:Int)) : i ≤ (a:Int) := zi [a] [i] (.h 1 (.a (.w 0) (.n 1)) (.u 0) .e) (.w 0) (.u 0) rfl h
theorem oz24 (h : 0 ≤ i ∧ i < (a:Int)) (x : 0 ≤ j ∧ j < (a:Int)) (y : ¬j = i) : ¬Int.toNat j = Int.toNat i := fun e => (y (Int.le_antisymm (zi [(Int.toNat j), (Int.toNat i)] [i, j] (.h 1 (.w 1) (.u 0) (.h 1 (.u 1) (.w 0) (.h 1 (.u 0) (.u 1) .e))) (.w 1) (.w 0) rfl (Int.le_of_eq (Eq.symm (Int.toNat_of_nonneg (zi [] [j] (.h 1 (.n 0) (.w 0) .e) (.n 0) (.w 0) rfl x.1)))) (Int.le_of_eq (Int.toNat_of_nonneg (zi [] [i] (.h 1 (.n 0) (.w 0) .e) (.n 0) (.w 0) rfl h.1))) (zcl (Nat.le_of_eq e))) (zi [(Int.toNat i), (Int.toNat j)] [i, j] (.h 1 (.u 1) (.w 1) (.h 1 (.w 0) (.u 0) (.h 1 (.u 0) (.u 1) .e))) (.w 0) (.w 1) rfl (Int.le_of_eq (Int.toNat_of_nonneg (zi [] [j] (.h 1 (.n 0) (.w 0) .e) (.n 0) (.w 0) rfl x.1))) (Int.le_of_eq (Eq.symm (Int.toNat_of_nonneg (zi [] [i] (.h 1 (.n 0) (.w 0) .e) (.n 0) (.w 0) rfl h.1)))) (zcl (Nat.le_of_eq e.symm)))))
theorem oz26 (h : a ≤ 2) (x : b ≤ c) : b+a ≤ c+2 := zn [b, c, a] (.h 1 (.v 2) (.n 2) (.h 1 (.v 0) (.v 1) .e)) (.a (.v 0) (.v 2)) (.a (.v 1) (.n 2)) rfl h x
theorem oz29 (h : a = b) (x : ¬c < a) (y : c-a = 0) : c-b = 0 := Nat.le_antisymm (zco (zi [(c - b), c, b, a, (c - a)] [] (.h 1 (.u 3) (.u 2) (.h 1 (.u 4) (.n 0) (.h 1 (.s (.u 1) (.u 3)) (.u 4) (.h 1 (.u 0) (.s (.u 1) (.u 2)) .e)))) (.u 0) (.n 0) rfl (zcl (Nat.le_of_eq h)) (zcl (Nat.le_of_eq y)) (Int.le_of_eq (Eq.symm (Int.ofNat_sub (zn [a, c] (.h 1 (.v 0) (.v 1) .e) (.v 0) (.v 1) rfl (zNt x))))) (Int.le_of_eq (Int.ofNat_sub (zn [a, c, b] (.h 1 (.v 2) (.v 0) (.h 1 (.v 0) (.v 1) .e)) (.v 2) (.v 1) rfl (Nat.le_of_eq h.symm) (zNt x)))))) (zn [(c - b)] .e (.n 0) (.v 0) rfl)
theorem oz32 (h : a ≤ 16) : b+4*a ≤ b+64 := zn [a, b] (.h 4 (.v 0) (.n 16) .e) (.a (.v 1) (.m 4 (.v 0))) (.a (.v 1) (.n 64)) rfl h
theorem oz36 (h : ¬a ≤ 90) : 90 < a := zn [a] (.h 1 (.a (.n 90) (.n 1)) (.v 0) .e) (.a (.n 90) (.n 1)) (.v 0) rfl (zNl h)
theorem oz44 (h : i = -1 ∨ 0 ≤ i ∧ i < (Int.toNat j:Int)) (x : 0 ≤ j) : i = -1 ∨ 0 ≤ i ∧ i < j := Int.toNat_of_nonneg x ▸ h
theorem oz46 (h : ¬a < b) : b ≤ a := zn [b, a] (.h 1 (.v 0) (.v 1) .e) (.v 0) (.v 1) rfl (zNt h)
theorem oz48 (h : 0 ≤ i) (x : i < 5) : i = 0 ∨ i = 1 ∨ i = 2 ∨ i = 3 ∨ i = 4 := zr 5 (fun i => i = 0 ∨ i = 1 ∨ i = 2 ∨ i = 3 ∨ i = 4) (by decide) h x
theorem oz49 (h : 0 ≤ i ∧ i < 5) (x : a < Int.toNat i) : a < 5 := zco (zi [(Int.toNat i), a] [i] (.h 1 (.a (.w 0) (.n 1)) (.n 5) (.h 1 (.c (.a (.v 1) (.n 1))) (.u 0) (.h 1 (.u 0) (.w 0) .e))) (.c (.a (.v 1) (.n 1))) (.n 5) rfl h.2 (zcl x) (Int.le_of_eq (Int.toNat_of_nonneg (zi [] [i] (.h 1 (.n 0) (.w 0) .e) (.n 0) (.w 0) rfl h.1))))
theorem oz51 (h : a ≠ 0) (x : a ≤ 900) : 0 < (a:Int) := Int.natCast_pos.mpr (Nat.pos_of_ne_zero h)
theorem oz52 (h : a ≤ 900) (x : i < (a:Int)) : Int.toNat i ≤ 1000000 := Int.toNat_le.mpr (zi [a] [i] (.h 1 (.u 0) (.n 900) (.h 1 (.a (.w 0) (.n 1)) (.u 0) .e)) (.w 0) (.n 1000000) rfl (zcl h) x)
theorem oz53 (h : 0 ≤ i) (x : i < (a:Int)) (y : b = a) : Int.toNat i < b := zco (zi [(Int.toNat i), a, b] [i] (.h 1 (.a (.w 0) (.n 1)) (.u 1) (.h 1 (.u 1) (.u 2) (.h 1 (.u 0) (.w 0) .e))) (.c (.a (.v 0) (.n 1))) (.u 2) rfl x (zcl (Nat.le_of_eq y.symm)) (Int.le_of_eq (Int.toNat_of_nonneg (zi [] [i] (.h 1 (.n 0) (.w 0) .e) (.n 0) (.w 0) rfl h))))
theorem oz54 (h : 0 ≤ i) (x : i < (a:Int)) : (a:Int) ≠ 0 := fun e => (zff (zco (zi [a] [i] (.h 1 (.n 0) (.w 0) (.h 1 (.a (.w 0) (.n 1)) (.u 0) (.h 1 (.u 0) (.n 0) .e))) (.n 1) (.n 0) rfl h x (Int.le_of_eq e))))
theorem oz61 (h : 10 ≤ a ∧ a ≤ b) (x : 1 = b+1) : False := zff (zn [b, a] (.h 1 (.n 10) (.v 1) (.h 1 (.v 1) (.v 0) (.h 1 (.a (.v 0) (.n 1)) (.n 1) .e))) (.n 1) (.n 0) rfl h.1 h.2 (Nat.le_of_eq x.symm))
theorem oz62 (h : 10 ≤ a ∧ a ≤ b) (x : 2 = b+1) : False := zff (zn [b, a] (.h 1 (.n 10) (.v 1) (.h 1 (.v 1) (.v 0) (.h 1 (.a (.v 0) (.n 1)) (.n 2) .e))) (.n 1) (.n 0) rfl h.1 h.2 (Nat.le_of_eq x.symm))
theorem oz63 (h : 10 ≤ a ∧ a ≤ b) (x : a = b+1) : False := zff (zn [b, a] (.h 1 (.v 1) (.v 0) (.h 1 (.a (.v 0) (.n 1)) (.v 1) .e)) (.n 1) (.n 0) rfl h.2 (Nat.le_of_eq x.symm))
theorem oz64 (h : 10 ≤ a ∧ a ≤ b) (x : 4 = b+1) : False := zff (zn [b, a] (.h 1 (.n 10) (.v 1) (.h 1 (.v 1) (.v 0) (.h 1 (.a (.v 0) (.n 1)) (.n 4) .e))) (.n 1) (.n 0) rfl h.1 h.2 (Nat.le_of_eq x.symm))
theorem oz65 (h : 10 ≤ a ∧ a ≤ b) (x : 5 = b+1) : False := zff (zn [b, a] (.h 1 (.n 10) (.v 1) (.h 1 (.v 1) (.v 0) (.h 1 (.a (.v 0) (.n 1)) (.n 5) .e))) (.n 1) (.n 0) rfl h.1 h.2 (Nat.le_of_eq x.symm))
theorem oz66 (h : 10 ≤ a ∧ a ≤ b) : b+1 ≠ 6 ∧ b+1 ≠ 7 ∧ b+1 ≠ 8 := ⟨(fun e => (zff (zn [b, a] (.h 1 (.n 10) (.v 1) (.h 1 (.v 1) (.v 0) (.h 1 (.a (.v 0) (.n 1)) (.n 6) .e))) (.n 1) (.n 0) rfl h.1 h.2 (Nat.le_of_eq e)))), ⟨(fun e => (zff (zn [b, a] (.h 1 (.n 10) (.v 1) (.h 1 (.v 1) (.v 0) (.h 1 (.a (.v 0) (.n 1)) (.n 7) .e))) (.n 1) (.n 0) rfl h.1 h.2 (Nat.le_of_eq e)))), (fun e => (zff (zn [b, a] (.h 1 (.n 10) (.v 1) (.h 1 (.v 1) (.v 0) (.h 1 (.a (.v 0) (.n 1)) (.n 8) .e))) (.n 1) (.n 0) rfl h.1 h.2 (Nat.le_of_eq e))))⟩⟩
theorem oz67 (h : a+1 < b) (x : b = a+1) : False := zff (zn [b, a] (.h 1 (.a (.a (.v 1) (.n 1)) (.n 1)) (.v 0) (.h 1 (.v 0) (.a (.v 1) (.n 1)) .e)) (.n 1) (.n 0) rfl h (Nat.le_of_eq x))
theorem oz70 (h : 10 ≤ a ∧ a ≤ b ∧ a ≠ c) : a ≠ 6 ∧ a ≠ 7 ∧ a ≠ 8 := ⟨(fun e => (zff (zn [a] (.h 1 (.n 10) (.v 0) (.h 1 (.v 0) (.n 6) .e)) (.n 1) (.n 0) rfl h.1 (Nat.le_of_eq e)))), ⟨(fun e => (zff (zn [a] (.h 1 (.n 10) (.v 0) (.h 1 (.v 0) (.n 7) .e)) (.n 1) (.n 0) rfl h.1 (Nat.le_of_eq e)))), (fun e => (zff (zn [a] (.h 1 (.n 10) (.v 0) (.h 1 (.v 0) (.n 8) .e)) (.n 1) (.n 0) rfl h.1 (Nat.le_of_eq e))))⟩⟩
theorem oz71 (h : 10 ≤ a ∧ a ≤ b ∧ a ≠ c) (x : 0 = a) : False := zff (zn [a] (.h 1 (.n 10) (.v 0) (.h 1 (.v 0) (.n 0) .e)) (.n 1) (.n 0) rfl h.1 (Nat.le_of_eq x.symm))
theorem oz72 (h : 10 ≤ a ∧ a ≤ b ∧ a ≠ c) (x : 1 = a) : False := zff (zn [a] (.h 1 (.n 10) (.v 0) (.h 1 (.v 0) (.n 1) .e)) (.n 1) (.n 0) rfl h.1 (Nat.le_of_eq x.symm))
theorem oz73 (h : 10 ≤ a ∧ a ≤ b ∧ a ≠ c) (x : 2 = a) : False := zff (zn [a] (.h 1 (.n 10) (.v 0) (.h 1 (.v 0) (.n 2) .e)) (.n 1) (.n 0) rfl h.1 (Nat.le_of_eq x.symm))
theorem oz74 (h : 10 ≤ a ∧ a ≤ b ∧ a ≠ c) (x : c = a) : False := h.2.2 (Nat.le_antisymm (zn [a, c] (.h 1 (.v 0) (.v 1) .e) (.v 0) (.v 1) rfl (Nat.le_of_eq x.symm)) (zn [c, a] (.h 1 (.v 0) (.v 1) .e) (.v 0) (.v 1) rfl (Nat.le_of_eq x)))
theorem oz75 (h : 10 ≤ a ∧ a ≤ b ∧ a ≠ c) (x : 4 = a) : False := zff (zn [a] (.h 1 (.n 10) (.v 0) (.h 1 (.v 0) (.n 4) .e)) (.n 1) (.n 0) rfl h.1 (Nat.le_of_eq x.symm))
theorem oz76 (h : 10 ≤ a ∧ a ≤ b ∧ a ≠ c) (x : 5 = a) : False := zff (zn [a] (.h 1 (.n 10) (.v 0) (.h 1 (.v 0) (.n 5) .e)) (.n 1) (.n 0) rfl h.1 (Nat.le_of_eq x.symm))
theorem oz77 (h : 10 ≤ a ∧ a ≤ b ∧ a ≠ c) (x : b < d) (y : d = a) : False := zff (zn [d, a, b] (.h 1 (.v 1) (.v 2) (.h 1 (.a (.v 2) (.n 1)) (.v 0) (.h 1 (.v 0) (.v 1) .e))) (.n 1) (.n 0) rfl h.2.1 x (Nat.le_of_eq y))
theorem oz78 (h : 10 ≤ a ∧ a ≤ b) : a ≠ 6 ∧ a ≠ 7 ∧ a ≠ 8 := ⟨(fun e => (zff (zn [a] (.h 1 (.n 10) (.v 0) (.h 1 (.v 0) (.n 6) .e)) (.n 1) (.n 0) rfl h.1 (Nat.le_of_eq e)))), ⟨(fun e => (zff (zn [a] (.h 1 (.n 10) (.v 0) (.h 1 (.v 0) (.n 7) .e)) (.n 1) (.n 0) rfl h.1 (Nat.le_of_eq e)))), (fun e => (zff (zn [a] (.h 1 (.n 10) (.v 0) (.h 1 (.v 0) (.n 8) .e)) (.n 1) (.n 0) rfl h.1 (Nat.le_of_eq e))))⟩⟩
theorem oz79 (h : 10 ≤ a ∧ a ≤ b) (x : b < c) (y : c = a) : False := zff (zn [c, a, b] (.h 1 (.v 1) (.v 2) (.h 1 (.a (.v 2) (.n 1)) (.v 0) (.h 1 (.v 0) (.v 1) .e))) (.n 1) (.n 0) rfl h.2 x (Nat.le_of_eq y))
theorem oz80 (h : 10 ≤ a ∧ a ≤ b) (x : a = 0) : False := zff (zn [a] (.h 1 (.n 10) (.v 0) (.h 1 (.v 0) (.n 0) .e)) (.n 1) (.n 0) rfl h.1 (Nat.le_of_eq x))
theorem oz81 (h : 10 ≤ a ∧ a ≤ b) (x : b < c) : c ≠ 6 ∧ c ≠ 7 ∧ c ≠ 8 := ⟨(fun e => (zff (zn [c, b, a] (.h 1 (.n 10) (.v 2) (.h 1 (.v 2) (.v 1) (.h 1 (.a (.v 1) (.n 1)) (.v 0) (.h 1 (.v 0) (.n 6) .e)))) (.n 1) (.n 0) rfl h.1 h.2 x (Nat.le_of_eq e)))), ⟨(fun e => (zff (zn [c, b, a] (.h 1 (.n 10) (.v 2) (.h 1 (.v 2) (.v 1) (.h 1 (.a (.v 1) (.n 1)) (.v 0) (.h 1 (.v 0) (.n 7) .e)))) (.n 1) (.n 0) rfl h.1 h.2 x (Nat.le_of_eq e)))), (fun e => (zff (zn [c, b, a] (.h 1 (.n 10) (.v 2) (.h 1 (.v 2) (.v 1) (.h 1 (.a (.v 1) (.n 1)) (.v 0) (.h 1 (.v 0) (.n 8) .e)))) (.n 1) (.n 0) rfl h.1 h.2 x (Nat.le_of_eq e))))⟩⟩
theorem oz85 (h : 0 ≤ i) (x : i < j) (y : Int.toNat j < a) (r : 0 ≤ j) : Int.toNat i < a := zco (zi [(Int.toNat i), (Int.toNat j), a] [i, j] (.h 1 (.a (.w 0) (.n 1)) (.w 1) (.h 1 (.c (.a (.v 1) (.n 1))) (.u 2) (.h 1 (.w 1) (.u 1) (.h 1 (.u 0) (.w 0) .e)))) (.c (.a (.v 0) (.n 1))) (.u 2) rfl x (zcl y) (Int.le_of_eq (Eq.symm (Int.toNat_of_nonneg (zi [] [j] (.h 1 (.n 0) (.w 0) .e) (.n 0) (.w 0) rfl r)))) (Int.le_of_eq (Int.toNat_of_nonneg (zi [] [i] (.h 1 (.n 0) (.w 0) .e) (.n 0) (.w 0) rfl h))))
theorem oz88 (h : 0 ≤ i) : ¬i = -1 := fun e => (zff (zco (zi [] [i] (.h 1 (.n 0) (.w 0) (.h 1 (.w 0) (.g (.n 1)) .e)) (.n 1) (.n 0) rfl h (Int.le_of_eq e))))
theorem oz89 (h : Int.toNat i < a) (x : a ≤ 100000) (y : (b:Int)+j+1 ≤ i) (r : 0 ≤ j) : b ≤ 1000000 := zco (zi [(Int.toNat i), b, a] [i, j] (.h 1 (.c (.a (.v 0) (.n 1))) (.u 2) (.h 1 (.u 2) (.n 100000) (.h 1 (.a (.a (.u 1) (.w 1)) (.n 1)) (.w 0) (.h 1 (.n 0) (.w 1) (.h 1 (.w 0) (.u 0) .e))))) (.u 1) (.n 1000000) rfl (zcl h) (zcl x) y r (Int.le_of_eq (Eq.symm (Int.toNat_of_nonneg (zi [b] [j, i] (.h 1 (.a (.a (.u 0) (.w 0)) (.n 1)) (.w 1) (.h 1 (.n 0) (.w 0) .e)) (.n 0) (.w 1) rfl y r)))))
theorem oz91 (h : 0 ≤ i) (x : j = -1) : Int.toNat (j+1) < Int.toNat (i+1) := zco (zi [(Int.toNat (i + (1 : Int))), (Int.toNat (j + (1 : Int)))] [i, j] (.h 1 (.n 0) (.w 0) (.h 1 (.w 1) (.g (.n 1)) (.h 1 (.u 1) (.a (.w 1) (.n 1)) (.h 1 (.a (.w 0) (.n 1)) (.u 0) .e)))) (.c (.a (.v 1) (.n 1))) (.u 0) rfl h (Int.le_of_eq x) (Int.le_of_eq (Int.toNat_of_nonneg (zi [] [j] (.h 1 (.g (.n 1)) (.w 0) .e) (.n 0) (.a (.w 0) (.n 1)) rfl (Int.le_of_eq x.symm)))) (Int.le_of_eq (Eq.symm (Int.toNat_of_nonneg (zi [] [i] (.h 1 (.n 0) (.w 0) .e) (.n 0) (.a (.w 0) (.n 1)) rfl h)))))
theorem oz92 (h : 0 ≤ i) (x : 0 ≤ j ∧ j < i) : Int.toNat (j+1) < Int.toNat (i+1) := zco (zi [(Int.toNat (i + (1 : Int))), (Int.toNat (j + (1 : Int)))] [i, j] (.h 1 (.a (.w 1) (.n 1)) (.w 0) (.h 1 (.u 1) (.a (.w 1) (.n 1)) (.h 1 (.a (.w 0) (.n 1)) (.u 0) .e))) (.c (.a (.v 1) (.n 1))) (.u 0) rfl x.2 (Int.le_of_eq (Int.toNat_of_nonneg (zi [] [j] (.h 1 (.n 0) (.w 0) .e) (.n 0) (.a (.w 0) (.n 1)) rfl x.1))) (Int.le_of_eq (Eq.symm (Int.toNat_of_nonneg (zi [] [i] (.h 1 (.n 0) (.w 0) .e) (.n 0) (.a (.w 0) (.n 1)) rfl h)))))
theorem oz94 (h : (a:Int)+i+1 ≤ j) (x : 0 ≤ i) (y : k = -1) : ((a+(0+1):Nat):Int)+k+1 ≤ j := zi [a] [k, i, j] (.h 1 (.a (.a (.u 0) (.w 1)) (.n 1)) (.w 2) (.h 1 (.n 0) (.w 1) (.h 1 (.w 0) (.g (.n 1)) .e))) (.a (.a (.c (.a (.v 0) (.a (.n 0) (.n 1)))) (.w 0)) (.n 1)) (.w 2) rfl h x (Int.le_of_eq y)
theorem oz95 (h : (a:Int)+i+1 ≤ j) (x : 0 ≤ k ∧ k < i) : ((a+(0+1):Nat):Int)+k+1 ≤ j := zi [a] [k, i, j] (.h 1 (.a (.a (.u 0) (.w 1)) (.n 1)) (.w 2) (.h 1 (.a (.w 0) (.n 1)) (.w 1) .e)) (.a (.a (.c (.a (.v 0) (.a (.n 0) (.n 1)))) (.w 0)) (.n 1)) (.w 2) rfl h x.2
theorem oz100 (h : a ≤ 80000) (x : b ≤ 16) (y : c < b) (r : d ≤ a+3+c) : d ≤ 90000 := zn [d, a, c, b] (.h 1 (.v 1) (.n 80000) (.h 1 (.v 3) (.n 16) (.h 1 (.a (.v 2) (.n 1)) (.v 3) (.h 1 (.v 0) (.a (.a (.v 1) (.n 3)) (.v 2)) .e)))) (.v 0) (.n 90000) rfl h x y r
theorem oz104 (h : a ≤ 80000) (x : b ≤ 16) (y : c < b) (r : d ≤ a+3+2*c+1) : d ≤ 90000 := zn [d, a, c, b] (.h 1 (.v 1) (.n 80000) (.h 2 (.v 3) (.n 16) (.h 2 (.a (.v 2) (.n 1)) (.v 3) (.h 1 (.v 0) (.a (.a (.a (.v 1) (.n 3)) (.m 2 (.v 2))) (.n 1)) .e)))) (.v 0) (.n 90000) rfl h x y r
theorem oz105 (h : a < b) : a ≠ b := fun e => (zff (zn [b, a] (.h 1 (.a (.v 1) (.n 1)) (.v 0) (.h 1 (.v 0) (.v 1) .e)) (.n 1) (.n 0) rfl h (Nat.le_of_eq e.symm)))
theorem oz109 (h : P ∧ 0 < a) : 0 < (a:Int) := zi [a] [] (.h 1 (.c (.a (.n 0) (.n 1))) (.u 0) .e) (.a (.n 0) (.n 1)) (.u 0) rfl (zcl h.2)
theorem oz111 (h : 0 ≤ i ∧ i < 100) : Int.toNat i < 100 := zco (zi [(Int.toNat i)] [i] (.h 1 (.a (.w 0) (.n 1)) (.n 100) (.h 1 (.u 0) (.w 0) .e)) (.c (.a (.v 0) (.n 1))) (.n 100) rfl h.2 (Int.le_of_eq (Int.toNat_of_nonneg (zi [] [i] (.h 1 (.n 0) (.w 0) .e) (.n 0) (.w 0) rfl h.1))))
theorem oz112 (h : 0 ≤ i ∧ i < 100) : (Int.toNat i:Int) = i := Int.le_antisymm (zi [(Int.toNat i)] [i] (.h 1 (.u 0) (.w 0) .e) (.u 0) (.w 0) rfl (Int.le_of_eq (Int.toNat_of_nonneg (zi [] [i] (.h 1 (.n 0) (.w 0) .e) (.n 0) (.w 0) rfl h.1)))) (zi [(Int.toNat i)] [i] (.h 1 (.w 0) (.u 0) .e) (.w 0) (.u 0) rfl (Int.le_of_eq (Eq.symm (Int.toNat_of_nonneg (zi [] [i] (.h 1 (.n 0) (.w 0) .e) (.n 0) (.w 0) rfl h.1)))))
theorem oz113 (h : 0 ≤ i ∧ i < 100) : Int.natAbs i < 2^64 := Int.ofNat_lt.mp ((Int.natAbs_of_nonneg h.1).symm ▸ (zi [] [i] (.h 1 (.a (.w 0) (.n 1)) (.n 100) .e) (.a (.w 0) (.n 1)) (.c (.n (2^64))) rfl h.2 : i < ((2^64 : Nat) : Int)))
theorem oz114 (h : 10 ≤ a ∧ a ≤ b) : 10 ≤ b+1 := zn [a, b] (.h 1 (.n 10) (.v 0) (.h 1 (.v 0) (.v 1) .e)) (.n 10) (.a (.v 1) (.n 1)) rfl h.1 h.2
theorem oz115 (h : 10 ≤ a ∧ a ≤ b) : b+1 ≠ a := fun e => (zff (zn [b, a] (.h 1 (.v 1) (.v 0) (.h 1 (.a (.v 0) (.n 1)) (.v 1) .e)) (.n 1) (.n 0) rfl h.2 (Nat.le_of_eq e)))
theorem oz116 (h : ¬(a:Int) = 0) : ¬a = 0 := fun e => (h (Int.le_antisymm (zi [a] [] (.h 1 (.u 0) (.n 0) .e) (.u 0) (.n 0) rfl (zcl (Nat.le_of_eq e))) (zi [a] [] .e (.n 0) (.u 0) rfl)))
theorem oz117 (h : 1 ≤ i ∧ i < 8) : i = 1 ∨ i = 2 ∨ i = 3 ∨ i = 4 ∨ i = 5 ∨ i = 6 ∨ i = 7 := zr 8 (fun i => 1 ≤ i → i = 1 ∨ i = 2 ∨ i = 3 ∨ i = 4 ∨ i = 5 ∨ i = 6 ∨ i = 7) (by decide) (Int.le_trans (by decide) h.1) h.2 h.1
theorem oz118 (h : 0 ≤ i ∧ i < 5) : Int.toNat i ≤ 4 := zco (zi [(Int.toNat i)] [i] (.h 1 (.a (.w 0) (.n 1)) (.n 5) (.h 1 (.u 0) (.w 0) .e)) (.u 0) (.n 4) rfl h.2 (Int.le_of_eq (Int.toNat_of_nonneg (zi [] [i] (.h 1 (.n 0) (.w 0) .e) (.n 0) (.w 0) rfl h.1))))
theorem oz120 (h : 0 ≤ i ∧ i < 4) : Int.toNat i < 4 := zco (zi [(Int.toNat i)] [i] (.h 1 (.a (.w 0) (.n 1)) (.n 4) (.h 1 (.u 0) (.w 0) .e)) (.c (.a (.v 0) (.n 1))) (.n 4) rfl h.2 (Int.le_of_eq (Int.toNat_of_nonneg (zi [] [i] (.h 1 (.n 0) (.w 0) .e) (.n 0) (.w 0) rfl h.1))))
theorem oz123 (h : a ≤ b) : a+1 ≤ b+1 := zn [a, b] (.h 1 (.v 0) (.v 1) .e) (.a (.v 0) (.n 1)) (.a (.v 1) (.n 1)) rfl h
theorem oz133 (h : a ≤ 70000) (x : b ≤ a+1+1) : b ≤ 100000 := zn [b, a] (.h 1 (.v 1) (.n 70000) (.h 1 (.v 0) (.a (.a (.v 1) (.n 1)) (.n 1)) .e)) (.v 0) (.n 100000) rfl h x
theorem oz135 (h : a ≤ 70000) (x : b ≤ 4) (y : c ≤ a+2) : c+min d b ≤ 1000000 := zn [(min d b), b, c, a] (.h 1 (.v 3) (.n 70000) (.h 1 (.v 1) (.n 4) (.h 1 (.v 2) (.a (.v 3) (.n 2)) (.h 1 (.v 0) (.v 1) .e)))) (.a (.v 2) (.v 0)) (.n 1000000) rfl h x y (Nat.min_le_right d b)
theorem oz136 (h : a ≤ 4) (x : b < a) (y : c ≤ b) : c ≤ 90000 := zn [c, b, a] (.h 1 (.v 2) (.n 4) (.h 1 (.a (.v 1) (.n 1)) (.v 2) (.h 1 (.v 0) (.v 1) .e))) (.v 0) (.n 90000) rfl h x y
theorem oz138 (h : a ≤ 70000) (x : b ≤ 4) (y : c ≤ a+2) : c+b ≤ 1000000 := zn [c, a, b] (.h 1 (.v 1) (.n 70000) (.h 1 (.v 2) (.n 4) (.h 1 (.v 0) (.a (.v 1) (.n 2)) .e))) (.a (.v 0) (.v 2)) (.n 1000000) rfl h x y
theorem oz141 (h : 8 ≤ i ∧ i < 12) : i = 8 ∨ i = 9 ∨ i = 10 ∨ i = 11 := zr 12 (fun i => 8 ≤ i → i = 8 ∨ i = 9 ∨ i = 10 ∨ i = 11) (by decide) (Int.le_trans (by decide) h.1) h.2 h.1
theorem oz142 (h : a ≤ 60000) (x : b ≤ 4) : a+2+2*b ≤ 80000 := zn [b, a] (.h 1 (.v 1) (.n 60000) (.h 2 (.v 0) (.n 4) .e)) (.a (.a (.v 1) (.n 2)) (.m 2 (.v 0))) (.n 80000) rfl h x
theorem oz145 (h : a ≤ 60000) (x : b ≤ 4) : a+120+2+2*b ≤ 80000 := zn [b, a] (.h 1 (.v 1) (.n 60000) (.h 2 (.v 0) (.n 4) .e)) (.a (.a (.a (.v 1) (.n 120)) (.n 2)) (.m 2 (.v 0))) (.n 80000) rfl h x
theorem oz146 (h : a ≤ 4) : b+120+2+2*a ≤ b+140 := zn [a, b] (.h 2 (.v 0) (.n 4) .e) (.a (.a (.a (.v 1) (.n 120)) (.n 2)) (.m 2 (.v 0))) (.a (.v 1) (.n 140)) rfl h
theorem oz147 (h : a ≤ 4) (x : b ≤ a) (y : P ∧ c ≤ 4) : c+b ≤ 16 := zn [c, b, a] (.h 1 (.v 2) (.n 4) (.h 1 (.v 1) (.v 2) (.h 1 (.v 0) (.n 4) .e))) (.a (.v 0) (.v 1)) (.n 16) rfl h x y.2
theorem oz148 (h : 0 < i) : 1 ≤ i := zi [] [i] (.h 1 (.a (.n 0) (.n 1)) (.w 0) .e) (.n 1) (.w 0) rfl h
theorem oz149 (h : ¬i < 8) : 8 ≤ i := zi [] [i] (.h 1 (.n 8) (.w 0) .e) (.n 8) (.w 0) rfl (zIt h)
theorem oz151 (h : a+2*(b+1) ≤ 60000) : a+2+2*b ≤ 60000 := zn [a, b] (.h 1 (.a (.v 0) (.m 2 (.a (.v 1) (.n 1)))) (.n 60000) .e) (.a (.a (.v 0) (.n 2)) (.m 2 (.v 1))) (.n 60000) rfl h
theorem oz152 (h : a+(b+1) ≤ 16) : a+0 ≤ 16 := zn [a, b] (.h 1 (.a (.v 0) (.a (.v 1) (.n 1))) (.n 16) .e) (.a (.v 0) (.n 0)) (.n 16) rfl h
theorem oz153 (h : a+(b+1) ≤ 16) : a+(0+1) ≤ 16 := zn [a, b] (.h 1 (.a (.v 0) (.a (.v 1) (.n 1))) (.n 16) .e) (.a (.v 0) (.a (.n 0) (.n 1))) (.n 16) rfl h
theorem oz156 : a+2*(b+1) = a+2+2*b := Nat.le_antisymm (zn [a, b] .e (.a (.v 0) (.m 2 (.a (.v 1) (.n 1)))) (.a (.a (.v 0) (.n 2)) (.m 2 (.v 1))) rfl) (zn [a, b] .e (.a (.a (.v 0) (.n 2)) (.m 2 (.v 1))) (.a (.v 0) (.m 2 (.a (.v 1) (.n 1)))) rfl)
theorem oz157 (h : 0 < i ∧ i < 12) (x : i < 8) : i = 1 ∨ i = 2 ∨ i = 3 ∨ i = 4 ∨ i = 5 ∨ i = 6 ∨ i = 7 := zr 8 (fun i => 1 ≤ i → i = 1 ∨ i = 2 ∨ i = 3 ∨ i = 4 ∨ i = 5 ∨ i = 6 ∨ i = 7) (by decide) (Int.le_of_lt h.1) x h.1
theorem oz158 (h : 0 < i ∧ i < 12) (x : ¬i < 8) : i = 8 ∨ i = 9 ∨ i = 10 ∨ i = 11 := zr 12 (fun i => 8 ≤ i → i = 8 ∨ i = 9 ∨ i = 10 ∨ i = 11) (by decide) (Int.le_of_lt h.1) h.2 (zIt x)
theorem oz159 (h : 0 ≤ i) (x : i < 4) : Int.toNat i < 4 := zco (zi [(Int.toNat i)] [i] (.h 1 (.a (.w 0) (.n 1)) (.n 4) (.h 1 (.u 0) (.w 0) .e)) (.c (.a (.v 0) (.n 1))) (.n 4) rfl x (Int.le_of_eq (Int.toNat_of_nonneg (zi [] [i] (.h 1 (.n 0) (.w 0) .e) (.n 0) (.w 0) rfl h))))
theorem oz164 : a+4*(b+1) = a+4+4*b := Nat.le_antisymm (zn [a, b] .e (.a (.v 0) (.m 4 (.a (.v 1) (.n 1)))) (.a (.a (.v 0) (.n 4)) (.m 4 (.v 1))) rfl) (zn [a, b] .e (.a (.a (.v 0) (.n 4)) (.m 4 (.v 1))) (.a (.v 0) (.m 4 (.a (.v 1) (.n 1)))) rfl)
theorem oz165 (h : a ≤ 4 ∧ P) (x : b ≤ 60000) : b+80+4*a ≤ 70000 := zn [b, a] (.h 4 (.v 1) (.n 4) (.h 1 (.v 0) (.n 60000) .e)) (.a (.a (.v 0) (.n 80)) (.m 4 (.v 1))) (.n 70000) rfl h.1 x
theorem oz166 (h : a ≤ 4 ∧ P) : b+80+4*a+4 ≤ b+200 := zn [a, b] (.h 4 (.v 0) (.n 4) .e) (.a (.a (.a (.v 1) (.n 80)) (.m 4 (.v 0))) (.n 4)) (.a (.v 1) (.n 200)) rfl h.1
theorem oz167 (h : a ≤ 4 ∧ P) : 0+a ≤ 16 := zn [a] (.h 1 (.v 0) (.n 4) .e) (.a (.n 0) (.v 0)) (.n 16) rfl h.1
theorem oz168 (h : a ≤ 50000) (x : b ≤ 4 ∧ P) : a+2*b ≤ 60000 := zn [b, a] (.h 1 (.v 1) (.n 50000) (.h 2 (.v 0) (.n 4) .e)) (.a (.v 1) (.m 2 (.v 0))) (.n 60000) rfl h x.1
theorem oz169 (h : a ≤ 50000) (x : b ≤ 4 ∧ P) : a+2*b+200 ≤ 60000 := zn [b, a] (.h 1 (.v 1) (.n 50000) (.h 2 (.v 0) (.n 4) .e)) (.a (.a (.v 1) (.m 2 (.v 0))) (.n 200)) (.n 60000) rfl h x.1
theorem oz170 (h : a ≤ 50000) (x : b ≤ 4 ∧ P) (y : c ≤ 4 ∧ Q) : a+2*b+200+2*c ≤ 60000 := zn [c, b, a] (.h 1 (.v 2) (.n 50000) (.h 2 (.v 1) (.n 4) (.h 2 (.v 0) (.n 4) .e))) (.a (.a (.a (.v 2) (.m 2 (.v 1))) (.n 200)) (.m 2 (.v 0))) (.n 60000) rfl h x.1 y.1
theorem oz171 (h : a ≤ 4 ∧ P) (x : b ≤ 4 ∧ Q) : c+2*a+200+2*b ≤ c+400 := zn [b, a, c] (.h 2 (.v 1) (.n 4) (.h 2 (.v 0) (.n 4) .e)) (.a (.a (.a (.v 2) (.m 2 (.v 1))) (.n 200)) (.m 2 (.v 0))) (.a (.v 2) (.n 400)) rfl h.1 x.1
theorem oz172 (h : a ≤ 4 ∧ P) (x : b ≤ 4) : b+a ≤ 16 := zn [b, a] (.h 1 (.v 1) (.n 4) (.h 1 (.v 0) (.n 4) .e)) (.a (.v 0) (.v 1)) (.n 16) rfl h.1 x
theorem oz173 (h : a ≤ 50000) (x : b ≤ 4 ∧ P) (y : c ≤ 4 ∧ Q) : a+2*b+2*c ≤ 60000 := zn [c, b, a] (.h 1 (.v 2) (.n 50000) (.h 2 (.v 1) (.n 4) (.h 2 (.v 0) (.n 4) .e))) (.a (.a (.v 2) (.m 2 (.v 1))) (.m 2 (.v 0))) (.n 60000) rfl h x.1 y.1
theorem oz174 (h : a ≤ 4 ∧ P) (x : b ≤ 4 ∧ Q) : c+2*a+2*b ≤ c+400 := zn [b, a, c] (.h 2 (.v 1) (.n 4) (.h 2 (.v 0) (.n 4) .e)) (.a (.a (.v 2) (.m 2 (.v 1))) (.m 2 (.v 0))) (.a (.v 2) (.n 400)) rfl h.1 x.1
theorem oz176 (h : a ≤ 4) : 10+2*a ≤ 60000 := zn [a] (.h 2 (.v 0) (.n 4) .e) (.a (.n 10) (.m 2 (.v 0))) (.n 60000) rfl h
theorem oz177 (h : a ≤ 4) : 10+2*a ≤ 20 := zn [a] (.h 2 (.v 0) (.n 4) .e) (.a (.n 10) (.m 2 (.v 0))) (.n 20) rfl h
theorem oz179 (h : i ≠ j) (x : 0 ≤ i) (y : 0 ≤ j) : ¬Int.toNat i = Int.toNat j := fun e => (h (Int.le_antisymm (zi [(Int.toNat i), (Int.toNat j)] [j, i] (.h 1 (.w 1) (.u 0) (.h 1 (.u 1) (.w 0) (.h 1 (.u 0) (.u 1) .e))) (.w 1) (.w 0) rfl (Int.le_of_eq (Eq.symm (Int.toNat_of_nonneg (zi [] [i] (.h 1 (.n 0) (.w 0) .e) (.n 0) (.w 0) rfl x)))) (Int.le_of_eq (Int.toNat_of_nonneg (zi [] [j] (.h 1 (.n 0) (.w 0) .e) (.n 0) (.w 0) rfl y))) (zcl (Nat.le_of_eq e))) (zi [(Int.toNat j), (Int.toNat i)] [j, i] (.h 1 (.u 1) (.w 1) (.h 1 (.w 0) (.u 0) (.h 1 (.u 0) (.u 1) .e))) (.w 0) (.w 1) rfl (Int.le_of_eq (Int.toNat_of_nonneg (zi [] [i] (.h 1 (.n 0) (.w 0) .e) (.n 0) (.w 0) rfl x))) (Int.le_of_eq (Eq.symm (Int.toNat_of_nonneg (zi [] [j] (.h 1 (.n 0) (.w 0) .e) (.n 0) (.w 0) rfl y)))) (zcl (Nat.le_of_eq e.symm)))))
theorem oz184 (h : a ≤ 100000) (x : b = a) : b ≤ 1000000 := zn [b, a] (.h 1 (.v 1) (.n 100000) (.h 1 (.v 0) (.v 1) .e)) (.v 0) (.n 1000000) rfl h (Nat.le_of_eq x)
theorem oz186 (h : a+1 ≤ b) : b = b-1+1 := Nat.le_antisymm (zco (zi [b, (b - 1)] [] (.h 1 (.s (.u 0) (.n 1)) (.u 1) .e) (.u 0) (.c (.a (.v 1) (.n 1))) rfl (Int.le_of_eq (Eq.symm (Int.ofNat_sub (zn [a, b] (.h 1 (.a (.v 0) (.n 1)) (.v 1) .e) (.n 1) (.v 1) rfl h)))))) (zco (zi [(b - 1), b] [] (.h 1 (.u 0) (.s (.u 1) (.n 1)) .e) (.c (.a (.v 0) (.n 1))) (.u 1) rfl (Int.le_of_eq (Int.ofNat_sub (zn [a, b] (.h 1 (.a (.v 0) (.n 1)) (.v 1) .e) (.n 1) (.v 1) rfl h)))))
theorem oz187 (h : a+1 ≤ b+1) : a ≤ b := zn [a, b] (.h 1 (.a (.v 0) (.n 1)) (.a (.v 1) (.n 1)) .e) (.v 0) (.v 1) rfl h
theorem oz188 (h : a+2 ≤ b) : b ≠ a+1 := fun e => (zff (zn [b, a] (.h 1 (.a (.v 1) (.n 2)) (.v 0) (.h 1 (.v 0) (.a (.v 1) (.n 1)) .e)) (.n 1) (.n 0) rfl h (Nat.le_of_eq e)))
theorem oz189 (h : a ≤ b) : a ≠ b+1 := fun e => (zff (zn [b, a] (.h 1 (.v 1) (.v 0) (.h 1 (.a (.v 0) (.n 1)) (.v 1) .e)) (.n 1) (.n 0) rfl h (Nat.le_of_eq e.symm)))
theorem oz192 (h : a+2 ≤ b) : a+1 < b := zn [a, b] (.h 1 (.a (.v 0) (.n 2)) (.v 1) .e) (.a (.a (.v 0) (.n 1)) (.n 1)) (.v 1) rfl h
theorem oz199 (h : a < 55296 ∨ 57343 < a ∧ a < 1114112) : a < 1114112 := h.elim (fun h => Nat.lt_trans h (by decide)) fun h => h.2
theorem oz200 (h : a ≤ b) (x : c ≤ b) : max a c ≤ b := Nat.max_le.mpr ⟨h, x⟩
theorem oz201 (h : a ≤ 2*b+3) : a+1 ≤ 2*b+4 := zn [a, b] (.h 1 (.v 0) (.a (.m 2 (.v 1)) (.n 3)) .e) (.a (.v 0) (.n 1)) (.a (.m 2 (.v 1)) (.n 4)) rfl h
theorem oz202 (h : a+1 ≤ 2) (x : b+1 ≤ 2*c+4) : max 0 (max (a+1) (max (b+1) 0))+1 ≤ 2*(c+1)+3 := Nat.succ_le_succ (Nat.max_le.mpr ⟨Nat.zero_le _, Nat.max_le.mpr ⟨Nat.le_trans h (Nat.le_add_left 2 _), Nat.max_le.mpr ⟨x, Nat.zero_le _⟩⟩⟩)
theorem oz203 (h : a+1 ≤ 2) : max 0 (max (a+1) (max 0 0))+1 ≤ 3 := Nat.succ_le_succ (Nat.max_le.mpr ⟨Nat.zero_le _, Nat.max_le.mpr ⟨h, by decide⟩⟩)
theorem oz206 (h : a+1 ≤ 1) : max 0 (max (a+1) (max (0+1) (max 0 0)))+1 ≤ 800 := Nat.succ_le_succ (Nat.max_le.mpr ⟨Nat.zero_le _, Nat.max_le.mpr ⟨Nat.le_trans h (by decide), by decide⟩⟩)
theorem oz208 (h : i = -1 ↔ a = 0) : i = -1 ↔ (a:Int) = 0 := h.trans ⟨fun e => congrArg Int.ofNat e, fun e => Int.ofNat.inj e⟩
theorem oz210 (h : a ≤ 2*5+3) : a ≤ 800 := zn [a] (.h 1 (.v 0) (.a (.m 2 (.n 5)) (.n 3)) .e) (.v 0) (.n 800) rfl h
theorem oz211 (h : a ≤ 4 ∧ P) : 5000+80+2*a ≤ 60000 := zn [a] (.h 2 (.v 0) (.n 4) .e) (.a (.a (.n 5000) (.n 80)) (.m 2 (.v 0))) (.n 60000) rfl h.1
theorem oz212 (h : a ≤ 4 ∧ P) : 5000+80+2*a ≤ 80000 := zn [a] (.h 2 (.v 0) (.n 4) .e) (.a (.a (.n 5000) (.n 80)) (.m 2 (.v 0))) (.n 80000) rfl h.1
theorem oz213 (h : a ≤ b+c) : a ≤ b+(c+1) := zn [a, b, c] (.h 1 (.v 0) (.a (.v 1) (.v 2)) .e) (.v 0) (.a (.v 1) (.a (.v 2) (.n 1))) rfl h
theorem oz214 (h : a ≤ b+c) : a+1 ≤ b+(c+1) := zn [a, b, c] (.h 1 (.v 0) (.a (.v 1) (.v 2)) .e) (.a (.v 0) (.n 1)) (.a (.v 1) (.a (.v 2) (.n 1))) rfl h
theorem oz220 (h : a ≤ 60000) (x : b ≤ a) (y : c ≤ 4) : b+(0+1)+min d c ≤ 1000000 := zn [(min d c), c, b, a] (.h 1 (.v 3) (.n 60000) (.h 1 (.v 2) (.v 3) (.h 1 (.v 1) (.n 4) (.h 1 (.v 0) (.v 1) .e)))) (.a (.a (.v 2) (.a (.n 0) (.n 1))) (.v 0)) (.n 1000000) rfl h x y (Nat.min_le_right d c)
theorem oz221 (h : a ≤ 60000) (x : b ≤ a+1) (y : c ≤ 4) (r : d < c) (s : e ≤ b+d) : e ≤ 90000 := zn [e, b, d, c, a] (.h 1 (.v 4) (.n 60000) (.h 1 (.v 1) (.a (.v 4) (.n 1)) (.h 1 (.v 3) (.n 4) (.h 1 (.a (.v 2) (.n 1)) (.v 3) (.h 1 (.v 0) (.a (.v 1) (.v 2)) .e))))) (.v 0) (.n 90000) rfl h x y r s
theorem oz227 (h : 10 < a) : a ≠ 6 ∧ a ≠ 7 ∧ a ≠ 8 := ⟨(fun e => (zff (zn [a] (.h 1 (.a (.n 10) (.n 1)) (.v 0) (.h 1 (.v 0) (.n 6) .e)) (.n 1) (.n 0) rfl h (Nat.le_of_eq e)))), ⟨(fun e => (zff (zn [a] (.h 1 (.a (.n 10) (.n 1)) (.v 0) (.h 1 (.v 0) (.n 7) .e)) (.n 1) (.n 0) rfl h (Nat.le_of_eq e)))), (fun e => (zff (zn [a] (.h 1 (.a (.n 10) (.n 1)) (.v 0) (.h 1 (.v 0) (.n 8) .e)) (.n 1) (.n 0) rfl h (Nat.le_of_eq e))))⟩⟩
theorem oz228 (h : 10 < a) : a ≠ 0 ∧ a ≠ 1 ∧ a ≠ 2 ∧ a ≠ 4 ∧ a ≠ 5 ∧ a ≠ 10 := ⟨(fun e => (zff (zn [a] (.h 1 (.a (.n 10) (.n 1)) (.v 0) (.h 1 (.v 0) (.n 0) .e)) (.n 1) (.n 0) rfl h (Nat.le_of_eq e)))), ⟨(fun e => (zff (zn [a] (.h 1 (.a (.n 10) (.n 1)) (.v 0) (.h 1 (.v 0) (.n 1) .e)) (.n 1) (.n 0) rfl h (Nat.le_of_eq e)))), ⟨(fun e => (zff (zn [a] (.h 1 (.a (.n 10) (.n 1)) (.v 0) (.h 1 (.v 0) (.n 2) .e)) (.n 1) (.n 0) rfl h (Nat.le_of_eq e)))), ⟨(fun e => (zff (zn [a] (.h 1 (.a (.n 10) (.n 1)) (.v 0) (.h 1 (.v 0) (.n 4) .e)) (.n 1) (.n 0) rfl h (Nat.le_of_eq e)))), ⟨(fun e => (zff (zn [a] (.h 1 (.a (.n 10) (.n 1)) (.v 0) (.h 1 (.v 0) (.n 5) .e)) (.n 1) (.n 0) rfl h (Nat.le_of_eq e)))), (fun e => (zff (zn [a] (.h 1 (.a (.n 10) (.n 1)) (.v 0) (.h 1 (.v 0) (.n 10) .e)) (.n 1) (.n 0) rfl h (Nat.le_of_eq e))))⟩⟩⟩⟩⟩
theorem oz231 (h : a ≠ 0 ∧ a ≠ 1 ∧ a ≠ 2 ∧ a ≠ 4 ∧ a ≠ 5 ∧ a ≠ 10) : a ≠ 1 := fun e => (h.2.1 (Nat.le_antisymm (zn [a] (.h 1 (.v 0) (.n 1) .e) (.v 0) (.n 1) rfl (Nat.le_of_eq e)) (zn [a] (.h 1 (.n 1) (.v 0) .e) (.n 1) (.v 0) rfl (Nat.le_of_eq e.symm))))
theorem oz232 (h : a ≠ 0 ∧ a ≠ 1 ∧ a ≠ 2 ∧ a ≠ 4 ∧ a ≠ 5 ∧ a ≠ 10) : a ≠ 4 := fun e => (h.2.2.2.1 (Nat.le_antisymm (zn [a] (.h 1 (.v 0) (.n 4) .e) (.v 0) (.n 4) rfl (Nat.le_of_eq e)) (zn [a] (.h 1 (.n 4) (.v 0) .e) (.n 4) (.v 0) rfl (Nat.le_of_eq e.symm))))
theorem oz237 (h : a = 0 ∨ a = 2 ∨ a = 5 ∨ a = 10) : a ≠ 1 := fun e => absurd (e ▸ h) (by decide)
theorem oz238 (h : a = 0 ∨ a = 2 ∨ a = 5 ∨ a = 10) : a ≠ 4 := fun e => absurd (e ▸ h) (by decide)
theorem oz239 (h : a < b) : (b:Int)-1 = (a:Int)+((b-1-a:Nat):Int) := Int.le_antisymm (zi [(b - 1), a, ((b - 1) - a), b] [] (.h 1 (.s (.u 3) (.n 1)) (.u 0) (.h 1 (.s (.u 0) (.u 1)) (.u 2) .e)) (.s (.u 3) (.n 1)) (.a (.u 1) (.u 2)) rfl (Int.le_of_eq (Eq.symm (Int.ofNat_sub (zn [a, b] (.h 1 (.a (.v 0) (.n 1)) (.v 1) .e) (.n 1) (.v 1) rfl h)))) (Int.le_of_eq (Eq.symm (Int.ofNat_sub (zco (zi [b, (b - 1), a] [] (.h 1 (.c (.a (.v 2) (.n 1))) (.u 0) (.h 1 (.s (.u 0) (.n 1)) (.u 1) .e)) (.u 2) (.u 1) rfl (zcl h) (Int.le_of_eq (Eq.symm (Int.ofNat_sub (zn [a, b] (.h 1 (.a (.v 0) (.n 1)) (.v 1) .e) (.n 1) (.v 1) rfl h)))))))))) (zi [((b - 1) - a), (b - 1), a, b] [] (.h 1 (.u 1) (.s (.u 3) (.n 1)) (.h 1 (.u 0) (.s (.u 1) (.u 2)) .e)) (.a (.u 2) (.u 0)) (.s (.u 3) (.n 1)) rfl (Int.le_of_eq (Int.ofNat_sub (zn [a, b] (.h 1 (.a (.v 0) (.n 1)) (.v 1) .e) (.n 1) (.v 1) rfl h))) (Int.le_of_eq (Int.ofNat_sub (zco (zi [b, (b - 1), a] [] (.h 1 (.c (.a (.v 2) (.n 1))) (.u 0) (.h 1 (.s (.u 0) (.n 1)) (.u 1) .e)) (.u 2) (.u 1) rfl (zcl h) (Int.le_of_eq (Eq.symm (Int.ofNat_sub (zn [a, b] (.h 1 (.a (.v 0) (.n 1)) (.v 1) .e) (.n 1) (.v 1) rfl h)))))))))
theorem oz248 (h : a > 0) : (b:Int)+(a:Int)-1 = (b:Int)+((a-1:Nat):Int) := Int.le_antisymm (zi [a, (a - 1), b] [] (.h 1 (.s (.u 0) (.n 1)) (.u 1) .e) (.s (.a (.u 2) (.u 0)) (.n 1)) (.a (.u 2) (.u 1)) rfl (Int.le_of_eq (Eq.symm (Int.ofNat_sub (zn [a] (.h 1 (.a (.n 0) (.n 1)) (.v 0) .e) (.n 1) (.v 0) rfl h))))) (zi [(a - 1), a, b] [] (.h 1 (.u 0) (.s (.u 1) (.n 1)) .e) (.a (.u 2) (.u 0)) (.s (.a (.u 2) (.u 1)) (.n 1)) rfl (Int.le_of_eq (Int.ofNat_sub (zn [a] (.h 1 (.a (.n 0) (.n 1)) (.v 0) .e) (.n 1) (.v 0) rfl h))))
theorem oz251 (h : a < 1000000) : (a:Int) < 1000000 := zi [a] [] (.h 1 (.c (.a (.v 0) (.n 1))) (.n 1000000) .e) (.a (.u 0) (.n 1)) (.n 1000000) rfl (zcl h)
theorem oz264 (h : 0 ≤ i) (x : 0 ≤ j) (y : ¬i = j) : ¬Int.toNat i = Int.toNat j := fun e => (y (Int.le_antisymm (zi [(Int.toNat i), (Int.toNat j)] [j, i] (.h 1 (.w 1) (.u 0) (.h 1 (.u 1) (.w 0) (.h 1 (.u 0) (.u 1) .e))) (.w 1) (.w 0) rfl (Int.le_of_eq (Eq.symm (Int.toNat_of_nonneg (zi [] [i] (.h 1 (.n 0) (.w 0) .e) (.n 0) (.w 0) rfl h)))) (Int.le_of_eq (Int.toNat_of_nonneg (zi [] [j] (.h 1 (.n 0) (.w 0) .e) (.n 0) (.w 0) rfl x))) (zcl (Nat.le_of_eq e))) (zi [(Int.toNat j), (Int.toNat i)] [j, i] (.h 1 (.u 1) (.w 1) (.h 1 (.w 0) (.u 0) (.h 1 (.u 0) (.u 1) .e))) (.w 0) (.w 1) rfl (Int.le_of_eq (Int.toNat_of_nonneg (zi [] [i] (.h 1 (.n 0) (.w 0) .e) (.n 0) (.w 0) rfl h))) (Int.le_of_eq (Eq.symm (Int.toNat_of_nonneg (zi [] [j] (.h 1 (.n 0) (.w 0) .e) (.n 0) (.w 0) rfl x)))) (zcl (Nat.le_of_eq e.symm)))))
theorem oz265 (h : a+2 ≤ 100000) : a < 1000000 := zn [a] (.h 1 (.a (.v 0) (.n 2)) (.n 100000) .e) (.a (.v 0) (.n 1)) (.n 1000000) rfl h
theorem oz276 (h : i ≠ j) (x : 0 ≤ i ∧ i < (a:Int)) (y : 0 ≤ j ∧ j < (a:Int)) : ¬Int.toNat i = Int.toNat j := fun e => (h (Int.le_antisymm (zi [(Int.toNat i), (Int.toNat j)] [j, i] (.h 1 (.w 1) (.u 0) (.h 1 (.u 1) (.w 0) (.h 1 (.u 0) (.u 1) .e))) (.w 1) (.w 0) rfl (Int.le_of_eq (Eq.symm (Int.toNat_of_nonneg (zi [] [i] (.h 1 (.n 0) (.w 0) .e) (.n 0) (.w 0) rfl x.1)))) (Int.le_of_eq (Int.toNat_of_nonneg (zi [] [j] (.h 1 (.n 0) (.w 0) .e) (.n 0) (.w 0) rfl y.1))) (zcl (Nat.le_of_eq e))) (zi [(Int.toNat j), (Int.toNat i)] [j, i] (.h 1 (.u 1) (.w 1) (.h 1 (.w 0) (.u 0) (.h 1 (.u 0) (.u 1) .e))) (.w 0) (.w 1) rfl (Int.le_of_eq (Int.toNat_of_nonneg (zi [] [i] (.h 1 (.n 0) (.w 0) .e) (.n 0) (.w 0) rfl x.1))) (Int.le_of_eq (Eq.symm (Int.toNat_of_nonneg (zi [] [j] (.h 1 (.n 0) (.w 0) .e) (.n 0) (.w 0) rfl y.1)))) (zcl (Nat.le_of_eq e.symm)))))
theorem oz277 (h : 1 < i) : 0 ≠ i := fun e => (zff (zco (zi [] [i] (.h 1 (.a (.n 1) (.n 1)) (.w 0) (.h 1 (.w 0) (.n 0) .e)) (.n 1) (.n 0) rfl h (Int.le_of_eq e.symm))))
theorem oz278 (h : 1 < i) : 1 ≠ i := fun e => (zff (zco (zi [] [i] (.h 1 (.a (.n 1) (.n 1)) (.w 0) (.h 1 (.w 0) (.n 1) .e)) (.n 1) (.n 0) rfl h (Int.le_of_eq e.symm))))
theorem oz281 (h : i < (a:Int)) (x : 1 < i) : 1 < (a:Int) := zi [a] [i] (.h 1 (.a (.w 0) (.n 1)) (.u 0) (.h 1 (.a (.n 1) (.n 1)) (.w 0) .e)) (.a (.n 1) (.n 1)) (.u 0) rfl h x
theorem oz282 (h : 0 ≤ i ∧ i < (a:Int)) (x : j ≠ i) (y : 0 ≤ j ∧ j < (a:Int)) : ¬Int.toNat j = Int.toNat i := fun e => (x (Int.le_antisymm (zi [(Int.toNat j), (Int.toNat i)] [i, j] (.h 1 (.w 1) (.u 0) (.h 1 (.u 1) (.w 0) (.h 1 (.u 0) (.u 1) .e))) (.w 1) (.w 0) rfl (Int.le_of_eq (Eq.symm (Int.toNat_of_nonneg (zi [] [j] (.h 1 (.n 0) (.w 0) .e) (.n 0) (.w 0) rfl y.1)))) (Int.le_of_eq (Int.toNat_of_nonneg (zi [] [i] (.h 1 (.n 0) (.w 0) .e) (.n 0) (.w 0) rfl h.1))) (zcl (Nat.le_of_eq e))) (zi [(Int.toNat i), (Int.toNat j)] [i, j] (.h 1 (.u 1) (.w 1) (.h 1 (.w 0) (.u 0) (.h 1 (.u 0) (.u 1) .e))) (.w 0) (.w 1) rfl (Int.le_of_eq (Int.toNat_of_nonneg (zi [] [j] (.h 1 (.n 0) (.w 0) .e) (.n 0) (.w 0) rfl y.1))) (Int.le_of_eq (Eq.symm (Int.toNat_of_nonneg (zi [] [i] (.h 1 (.n 0) (.w 0) .e) (.n 0) (.w 0) rfl h.1)))) (zcl (Nat.le_of_eq e.symm)))))
theorem oz283 (h : a < b) : b+1-(a+1) < b+1-a := zco (zi [b, a, ((b + 1) - a), ((b + 1) - (a + 1))] [] (.h 1 (.u 3) (.s (.c (.a (.v 0) (.n 1))) (.c (.a (.v 1) (.n 1)))) (.h 1 (.s (.c (.a (.v 0) (.n 1))) (.u 1)) (.u 2) .e)) (.c (.a (.v 3) (.n 1))) (.u 2) rfl (Int.le_of_eq (Int.ofNat_sub (zn [a, b] (.h 1 (.a (.v 0) (.n 1)) (.v 1) .e) (.a (.v 0) (.n 1)) (.a (.v 1) (.n 1)) rfl h))) (Int.le_of_eq (Eq.symm (Int.ofNat_sub (zn [a, b] (.h 1 (.a (.v 0) (.n 1)) (.v 1) .e) (.v 0) (.a (.v 1) (.n 1)) rfl h)))))
theorem oz284 (h : a < b) : a+1 ≤ b := zn [a, b] (.h 1 (.a (.v 0) (.n 1)) (.v 1) .e) (.a (.v 0) (.n 1)) (.v 1) rfl h
theorem oz285 (h : a ≤ b) (x : a ≥ b) : a = b := Nat.le_antisymm (zn [a, b] (.h 1 (.v 0) (.v 1) .e) (.v 0) (.v 1) rfl h) (zn [b, a] (.h 1 (.v 0) (.v 1) .e) (.v 0) (.v 1) rfl x)
theorem oz286 (h : a ≤ b) : min a b = a := Nat.min_eq_left h
theorem oz294 (h : a = Int.toNat i) (x : b < a) : b < Int.toNat i := zn [b, a, (Int.toNat i)] (.h 1 (.v 1) (.v 2) (.h 1 (.a (.v 0) (.n 1)) (.v 1) .e)) (.a (.v 0) (.n 1)) (.v 2) rfl (Nat.le_of_eq h) x
theorem oz295 (h : a < Int.toNat i) : 0 < i-(a:Int) := Int.sub_pos_of_lt (Int.lt_toNat.mp h)
theorem oz296 : i-((a:Int)+1) = i-(a:Int)-1 := Int.le_antisymm (zi [a] [i] .e (.s (.w 0) (.a (.u 0) (.n 1))) (.s (.s (.w 0) (.u 0)) (.n 1)) rfl) (zi [a] [i] .e (.s (.s (.w 0) (.u 0)) (.n 1)) (.s (.w 0) (.a (.u 0) (.n 1))) rfl)
theorem oz297 (h : 0 ≤ i) : i-(Int.toNat i:Int) ≤ 0 := zi [(Int.toNat i)] [i] (.h 1 (.w 0) (.u 0) .e) (.s (.w 0) (.u 0)) (.n 0) rfl (Int.le_of_eq (Eq.symm (Int.toNat_of_nonneg (zi [] [i] (.h 1 (.n 0) (.w 0) .e) (.n 0) (.w 0) rfl h))))
theorem oz298 (h : a+2*(b+1) ≤ 900) : a+1+2*b ≤ 900 := zn [a, b] (.h 1 (.a (.v 0) (.m 2 (.a (.v 1) (.n 1)))) (.n 900) .e) (.a (.a (.v 0) (.n 1)) (.m 2 (.v 1))) (.n 900) rfl h
theorem oz300 (h : a < b) : b-(a+1) < b-a := zco (zi [b, a, (b - a), (b - (a + 1))] [] (.h 1 (.u 3) (.s (.u 0) (.c (.a (.v 1) (.n 1)))) (.h 1 (.s (.u 0) (.u 1)) (.u 2) .e)) (.c (.a (.v 3) (.n 1))) (.u 2) rfl (Int.le_of_eq (Int.ofNat_sub (zn [a, b] (.h 1 (.a (.v 0) (.n 1)) (.v 1) .e) (.a (.v 0) (.n 1)) (.v 1) rfl h))) (Int.le_of_eq (Eq.symm (Int.ofNat_sub (zn [a, b] (.h 1 (.a (.v 0) (.n 1)) (.v 1) .e) (.v 0) (.v 1) rfl h)))))
theorem oz301 (h : a+2*(b+1) ≤ 900) : a < 1000 := zn [a, b] (.h 1 (.a (.v 0) (.m 2 (.a (.v 1) (.n 1)))) (.n 900) .e) (.a (.v 0) (.n 1)) (.n 1000) rfl h
theorem oz302 (h : a+40*(b+1) ≤ 9000) : a+3+40*b ≤ 9000 := zn [a, b] (.h 1 (.a (.v 0) (.m 40 (.a (.v 1) (.n 1)))) (.n 9000) .e) (.a (.a (.v 0) (.n 3)) (.m 40 (.v 1))) (.n 9000) rfl h
theorem oz303 (h : a ≤ 800) (x : b+40*c ≤ 9000) (y : min a d ≤ a) (r : e = 9900) : b+min a d < e := zn [e, (min a d), a, b, c] (.h 1 (.v 2) (.n 800) (.h 1 (.a (.v 3) (.m 40 (.v 4))) (.n 9000) (.h 1 (.v 1) (.v 2) (.h 1 (.n 9900) (.v 0) .e)))) (.a (.a (.v 3) (.v 1)) (.n 1)) (.v 0) rfl h x y (Nat.le_of_eq r.symm)
theorem oz305 (h : a ≤ 1000) (x : b < a) : (b:Int) < 2^63 := zi [b, a] [] (.h 1 (.u 1) (.n 1000) (.h 1 (.c (.a (.v 0) (.n 1))) (.u 1) .e)) (.a (.u 0) (.n 1)) (.n (2^63)) rfl (zcl h) (zcl x)
theorem oz310 (h : a < 10) : ¬a/30+1 > 300 := by omega
theorem oz312 (h : a ≤ 1000000) : (a:Int) < 2^63 := zi [a] [] (.h 1 (.u 0) (.n 1000000) .e) (.a (.u 0) (.n 1)) (.n (2^63)) rfl (zcl h)
theorem oz314 (h : a = b) (x : 0 < b) : Int.toNat (-1+(a:Int)) = b-1 := Nat.le_antisymm (zco (zi [b, (b - 1), (Int.toNat ((-(1 : Int)) + (↑a : Int))), a] [] (.h 1 (.u 3) (.u 0) (.h 1 (.u 2) (.a (.g (.n 1)) (.u 3)) (.h 1 (.s (.u 0) (.n 1)) (.u 1) .e))) (.u 2) (.u 1) rfl (zcl (Nat.le_of_eq h)) (Int.le_of_eq (Int.toNat_of_nonneg (zi [b, a] [] (.h 1 (.u 0) (.u 1) (.h 1 (.c (.a (.n 0) (.n 1))) (.u 0) .e)) (.n 0) (.a (.g (.n 1)) (.u 1)) rfl (zcl (Nat.le_of_eq h.symm)) (zcl x)))) (Int.le_of_eq (Eq.symm (Int.ofNat_sub (zn [b] (.h 1 (.a (.n 0) (.n 1)) (.v 0) .e) (.n 1) (.v 0) rfl x)))))) (zco (zi [(b - 1), b, a, (Int.toNat ((-(1 : Int)) + (↑a : Int)))] [] (.h 1 (.u 1) (.u 2) (.h 1 (.a (.g (.n 1)) (.u 2)) (.u 3) (.h 1 (.u 0) (.s (.u 1) (.n 1)) .e))) (.u 0) (.u 3) rfl (zcl (Nat.le_of_eq h.symm)) (Int.le_of_eq (Eq.symm (Int.toNat_of_nonneg (zi [b, a] [] (.h 1 (.u 0) (.u 1) (.h 1 (.c (.a (.n 0) (.n 1))) (.u 0) .e)) (.n 0) (.a (.g (.n 1)) (.u 1)) rfl (zcl (Nat.le_of_eq h.symm)) (zcl x))))) (Int.le_of_eq (Int.ofNat_sub (zn [b] (.h 1 (.a (.n 0) (.n 1)) (.v 0) .e) (.n 1) (.v 0) rfl x)))))
theorem oz321 (h : a ≤ 1000000) (x : b = a) : b ≤ 1000000 := zn [b, a] (.h 1 (.v 1) (.n 1000000) (.h 1 (.v 0) (.v 1) .e)) (.v 0) (.n 1000000) rfl h (Nat.le_of_eq x)
theorem oz324 (h : 0 < a) (x : b = a) : a-1 = Int.toNat (-1+(b:Int)) := Nat.le_antisymm (zco (zi [b, (Int.toNat ((-(1 : Int)) + (↑b : Int))), (a - 1), a] [] (.h 1 (.u 3) (.u 0) (.h 1 (.u 2) (.s (.u 3) (.n 1)) (.h 1 (.a (.g (.n 1)) (.u 0)) (.u 1) .e))) (.u 2) (.u 1) rfl (zcl (Nat.le_of_eq x.symm)) (Int.le_of_eq (Int.ofNat_sub (zn [a] (.h 1 (.a (.n 0) (.n 1)) (.v 0) .e) (.n 1) (.v 0) rfl h))) (Int.le_of_eq (Eq.symm (Int.toNat_of_nonneg (zi [a, b] [] (.h 1 (.c (.a (.n 0) (.n 1))) (.u 0) (.h 1 (.u 0) (.u 1) .e)) (.n 0) (.a (.g (.n 1)) (.u 1)) rfl (zcl h) (zcl (Nat.le_of_eq x.symm)))))))) (zco (zi [(Int.toNat ((-(1 : Int)) + (↑b : Int))), b, a, (a - 1)] [] (.h 1 (.u 1) (.u 2) (.h 1 (.s (.u 2) (.n 1)) (.u 3) (.h 1 (.u 0) (.a (.g (.n 1)) (.u 1)) .e))) (.u 0) (.u 3) rfl (zcl (Nat.le_of_eq x)) (Int.le_of_eq (Eq.symm (Int.ofNat_sub (zn [a] (.h 1 (.a (.n 0) (.n 1)) (.v 0) .e) (.n 1) (.v 0) rfl h)))) (Int.le_of_eq (Int.toNat_of_nonneg (zi [a, b] [] (.h 1 (.c (.a (.n 0) (.n 1))) (.u 0) (.h 1 (.u 0) (.u 1) .e)) (.n 0) (.a (.g (.n 1)) (.u 1)) rfl (zcl h) (zcl (Nat.le_of_eq x.symm)))))))
end
set_option genCtorIdx true
section
open PySem PySem.W PyProof.Rows PySem.Calls
set_option maxRecDepth 100000
noncomputable section
noncomputable abbrev pw : Program := PySem.Challenge.pw_nt0622_01
noncomputable abbrev kh (P : Params) (x : Str) : Int := PyData.keyHash P x
noncomputable def stAt (i : Nat) : Stmt := (pw.main.body[i]?).getD default
noncomputable def mtAt (i j : Nat) : Stmt := match stAt i with | .ClassDef _ _ _ b _ _ _ _ _ _ _ => (b[j]?).getD default | _ => default
noncomputable def argsS : Stmt → Arguments | .FunctionDef _ a _ _ _ _ _ _ _ _ => a | _ => default
noncomputable def bodyS : Stmt → List Stmt | .FunctionDef _ _ b _ _ _ _ _ _ _ => b | _ => []
noncomputable def scopeS : Stmt → Scope | .FunctionDef _ _ _ _ _ _ sc _ _ _ => sc | _ => default
noncomputable def cA (n q : Str) (t l c x y : Nat) (u v : Value) (z p : Nat) : Obj := ⟨.type "code", none, .fields [.str n t, .str q (t + 1), .str "/claim/cut.py" (t + 2), .int l 0, .int c 0, .int 0 0, .int 0 0, .int 3 0, .ref x, .bool true, .int 181 0, .ref y, .none, u, v, .ref z, .int p 0, .int l 0, .str "/claim/cut.py" (p + 1)].toArray, [].toArray⟩
noncomputable def cO (a : Nat) (n q : Str) (t l c p : Nat) : Obj := cA n q t l c (a - 5) (a - 4) (.ref (a - 3)) (.ref (a - 2)) (a - 1) p
noncomputable def cN (a : Nat) (n q : Str) (t l c p : Nat) : Obj := cA n q t l c (a - 3) (a - 2) .none .none (a - 1) p
noncomputable def fO (a : Nat) (n q : Str) (st : Stmt) (dV : Value) (m : Str) (k : Nat) : Obj := ⟨.type "function", none, .func (fnOf n q (argsS st) (bodyS st) (scopeS st) dV .none .none (.str m k) none (.ref (a - 1)) .none), [].toArray⟩
noncomputable def tO (l : List Value) : Obj := ⟨.type "tuple", none, .seq l.toArray 0, [].toArray⟩
noncomputable def en (P : Params) (x : Str) (t : Nat) (v : Value) : DictEntry := ⟨kh P x, .str x t, v⟩
noncomputable def o_1 (P : Params) : Obj := ⟨.type "dict", none, .dict [en P "builtins" 162 (.ref 4), en P "__main__" 163 (.ref 5)].toArray 2, [].toArray⟩
noncomputable def o_2 (P : Params) : Obj := ⟨.none, none, .dict [en P "type.__subclasses__.Exception.0" 710 (.int 415 0), en P "type.__subclasses__.Exception.n" 711 (.int 1 0)].toArray 2, [].toArray⟩
noncomputable def o_3 (P : Params) : Obj := ⟨(.type "dict"), none, .dict [en P "__name__" 165 (.str "law_nt0622_01" 1153), en P "__doc__" 166 .none, en P "__package__" 167 .none, en P "__loader__" 168 (.builtin "__main__.__loader__#opaque"), en P "__spec__" 169 .none, en P "__annotations__" 170 (.ref 6), en P "__builtins__" 171 (.ref 4), en P "__file__" 173 (.str "/claim/cut.py" 172), en P "__cached__" 174 .none, en P "_wall" 193 (.ref 21), en P "is_space" 202 (.ref 28), en P "is_upper" 209 (.ref 35), en P "lower" 216 (.ref 42), en P "lower_text" 225 (.ref 49), en P "is_table_part" 234 (.ref 56), en P "is_math_point" 242 (.ref 63), en P "is_html_point" 251 (.ref 70), en P "foster_place" 264 (.ref 77), en P "place_for" 277 (.ref 85), en P "insert_sign" 290 (.ref 92), en P "insert_comment" 302 (.ref 100), en P "make" 313 (.ref 108), en P "insert_element" 327 (.ref 117), en P "insert_token" 336 (.ref 124), en P "insert_void" 345 (.ref 131), en P "associate" 355 (.ref 138), en P "OpenStack" 484 (.ref 239), en P "stops_scope" 495 (.ref 250), en P "in_scope" 508 (.ref 258), en P "mode_of" 518 (.ref 265), en P "select_mode" 527 (.ref 272), en P "mode_for" 537 (.ref 279), en P "reset_mode" 547 (.ref 286), en P "value_of" 558 (.ref 293), en P "is_space_token" 565 (.ref 300), en P "pop_to_table" 574 (.ref 307), en P "outside_table" 582 (.ref 314), en P "close_table" 589 (.ref 321), en P "open_part" 598 (.ref 328), en P "table_in_table" 606 (.ref 335), en P "input_in_table" 615 (.ref 342), en P "form_in_table" 623 (.ref 349), en P "start_in_table" 632 (.ref 356), en P "end_in_table" 641 (.ref 363), en P "sign_in_table" 649 (.ref 370), en P "in_table" 658 (.ref 377), en P "flush_pending" 668 (.ref 384), en P "in_table_text" 676 (.ref 391), en P "table_rules" 682 (.ref 398), en P "HtmlFault" 713 (.ref 415), en P "Misused" 729 (.ref 428), en P "Formatting" 836 (.ref 510), en P "alike" 846 (.ref 521), en P "Tree" 1010 (.ref 634), en P "above" 1020 (.ref 645), en P "Builder" 1129 (.ref 712), en P "is_html_turn" 1139 (.ref 723), en P "ready" 1152 (.ref 731), en P "_law_digit" 1162 (.ref 738), en P "_law_body" 1170 (.ref 745), en P "_law_head" 1178 (.ref 752), en P "_law_part" 1186 (.ref 759), en P "_law_plain" 1192 (.ref 764), en P "_law_signs" 1203 (.ref 771), en P "_law_put" 1211 (.ref 778), en P "_law_read" 1220 (.ref 785), en P "_law_settle" 1226 (.ref 790), en P "_law_start" 1238 (.ref 797), en P "_law_taken" 1252 (.ref 804), en P "_law_fostered" 1265 (.ref 811), en P "_law_gap" 1278 (.ref 818), en P "law" 1284 (.ref 823)].toArray 72, [].toArray⟩
noncomputable def o_238 (P : Params) : Obj := ⟨(.type "dict"), none, .dict [en P "__module__" 365 (.str "htmltree.openstack" 356), en P "__firstlineno__" 369 (.int 107 368), en P "__init__" 377 (.ref 152), en P "push" 385 (.ref 159), en P "pop" 392 (.ref 166), en P "current" 399 (.ref 173), en P "many" 406 (.ref 180), en P "has" 414 (.ref 187), en P "remove" 422 (.ref 194), en P "place" 430 (.ref 201), en P "put_at" 439 (.ref 208), en P "name" 447 (.ref 215), en P "has_name" 456 (.ref 222), en P "pop_until" 466 (.ref 229), en P "pop_to" 474 (.ref 236), en P "__static_attributes__" 477 (.ref 237), en P "__dict__" 479 (.ref 240), en P "__weakref__" 481 (.ref 241), en P "__doc__" 482 .none].toArray 4, [].toArray⟩
noncomputable def o_239 (P : Params) : Obj := ⟨(.type "type"), none, .cls { name := "OpenStack", bases := [(.type "object")], mro := [(.ref 239), (.type "object")], ns := 238, qualname := "OpenStack", hasDict := true, slotNames := [], subclasses := [], abstract := false, collection := none, hasDel := false }, [none, none, some (.str "OpenStack" 358), some (.str "OpenStack" 366), some (.builtin "object.__new__"), some (.bool true)].toArray⟩
noncomputable def o_509 (P : Params) : Obj := ⟨(.type "dict"), none, .dict [en P "__module__" 739 (.str "htmltree.formatting" 730), en P "__firstlineno__" 743 (.int 370 742), en P "__init__" 751 (.ref 444), en P "push" 762 (.ref 451), en P "mark" 769 (.ref 458), en P "clear_to_mark" 776 (.ref 465), en P "find" 784 (.ref 472), en P "has" 792 (.ref 479), en P "place" 800 (.ref 486), en P "remove" 808 (.ref 493), en P "replace" 817 (.ref 500), en P "put_at" 826 (.ref 507), en P "__static_attributes__" 829 (.ref 508), en P "__dict__" 831 (.ref 511), en P "__weakref__" 833 (.ref 512), en P "__doc__" 834 .none].toArray 4, [].toArray⟩
noncomputable def o_510 (P : Params) : Obj := ⟨(.type "type"), none, .cls { name := "Formatting", bases := [(.type "object")], mro := [(.ref 510), (.type "object")], ns := 509, qualname := "Formatting", hasDict := true, slotNames := [], subclasses := [], abstract := false, collection := none, hasDel := false }, [none, none, some (.str "Formatting" 732), some (.str "Formatting" 740), some (.builtin "object.__new__"), some (.bool true)].toArray⟩
noncomputable def o_633 (P : Params) : Obj := ⟨(.type "dict"), none, .dict [en P "__module__" 856 (.str "htmltree.tree" 847), en P "__firstlineno__" 860 (.int 425 859), en P "__init__" 867 (.ref 535), en P "add" 882 (.ref 544), en P "element" 894 (.ref 553), en P "text" 902 (.ref 560), en P "comment" 910 (.ref 567), en P "doctype" 920 (.ref 574), en P "insert" 933 (.ref 582), en P "append" 942 (.ref 589), en P "remove" 950 (.ref 596), en P "move_children" 959 (.ref 603), en P "place" 967 (.ref 610), en P "last" 975 (.ref 617), en P "value" 985 (.ref 624), en P "is_html" 994 (.ref 631), en P "__static_attributes__" 1003 (.ref 632), en P "__dict__" 1005 (.ref 635), en P "__weakref__" 1007 (.ref 636), en P "__doc__" 1008 .none].toArray 4, [].toArray⟩
noncomputable def o_634 (P : Params) : Obj := ⟨(.type "type"), none, .cls { name := "Tree", bases := [(.type "object")], mro := [(.ref 634), (.type "object")], ns := 633, qualname := "Tree", hasDict := true, slotNames := [], subclasses := [], abstract := false, collection := none, hasDel := false }, [none, none, some (.str "Tree" 849), some (.str "Tree" 857), some (.builtin "object.__new__"), some (.bool true)].toArray⟩
noncomputable def o_711 (P : Params) : Obj := ⟨(.type "dict"), none, .dict [en P "__module__" 1030 (.str "htmltree.builder" 1021), en P "__firstlineno__" 1034 (.int 514 1033), en P "__init__" 1043 (.ref 660), en P "error" 1051 (.ref 667), en P "to" 1059 (.ref 674), en P "use" 1069 (.ref 681), en P "process" 1077 (.ref 688), en P "feed" 1085 (.ref 695), en P "adjusted" 1092 (.ref 702), en P "is_foreign" 1100 (.ref 709), en P "__static_attributes__" 1122 (.ref 710), en P "__dict__" 1124 (.ref 713), en P "__weakref__" 1126 (.ref 714), en P "__doc__" 1127 .none].toArray 4, [].toArray⟩
noncomputable def o_712 (P : Params) : Obj := ⟨(.type "type"), none, .cls { name := "Builder", bases := [(.type "object")], mro := [(.ref 712), (.type "object")], ns := 711, qualname := "Builder", hasDict := true, slotNames := [], subclasses := [], abstract := false, collection := none, hasDel := false }, [none, none, some (.str "Builder" 1023), some (.str "Builder" 1031), some (.builtin "object.__new__"), some (.bool true)].toArray⟩
noncomputable def K (P : Params) : Frag := [(1, o_1 P),
 (2, o_2 P),
 (3, o_3 P),
 (27, cO 27 "is_space" "is_space" 196 5 1 200),
 (28, fO 28 "is_space" "is_space" (stAt 2) .none "htmltree.signs" 194),
 (34, cO 34 "is_upper" "is_upper" 203 7 1 207),
 (35, fO 35 "is_upper" "is_upper" (stAt 3) .none "htmltree.signs" 194),
 (41, cO 41 "lower" "lower" 210 9 1 214),
 (42, fO 42 "lower" "lower" (stAt 4) .none "htmltree.signs" 194),
 (48, cO 48 "lower_text" "lower_text" 217 13 1 223),
 (49, fO 49 "lower_text" "lower_text" (stAt 5) .none "htmltree.signs" 194),
 (55, cO 55 "is_table_part" "is_table_part" 228 19 1 232),
 (56, fO 56 "is_table_part" "is_table_part" (stAt 7) .none "htmltree.names" 226),
 (62, cO 62 "is_math_point" "is_math_point" 235 21 2 240),
 (63, fO 63 "is_math_point" "is_math_point" (stAt 8) .none "htmltree.names" 226),
 (69, cO 69 "is_html_point" "is_html_point" 243 23 2 249),
 (70, fO 70 "is_html_point" "is_html_point" (stAt 9) .none "htmltree.names" 226),
 (76, cO 76 "foster_place" "foster_place" 254 31 1 262),
 (77, fO 77 "foster_place" "foster_place" (stAt 11) .none "htmltree.inserting" 252),
 (78, tO [(.int (-1) 266)]),
 (84, cO 84 "place_for" "place_for" 267 45 2 275),
 (85, fO 85 "place_for" "place_for" (stAt 12) (.ref 78) "htmltree.inserting" 252),
 (91, cO 91 "insert_sign" "insert_sign" 278 58 2 288),
 (92, fO 92 "insert_sign" "insert_sign" (stAt 13) .none "htmltree.inserting" 252),
 (93, tO [(.int (-1) 292)]),
 (99, cO 99 "insert_comment" "insert_comment" 293 73 3 300),
 (100, fO 100 "insert_comment" "insert_comment" (stAt 14) (.ref 93) "htmltree.inserting" 252),
 (101, tO [(.str "html" 303)]),
 (107, cO 107 "make" "make" 304 78 4 311),
 (108, fO 108 "make" "make" (stAt 15) (.ref 101) "htmltree.inserting" 252),
 (109, tO []),
 (110, tO [(.ref 109), (.str "html" 314)]),
 (116, cO 116 "insert_element" "insert_element" 315 80 4 325),
 (117, fO 117 "insert_element" "insert_element" (stAt 16) (.ref 110) "htmltree.inserting" 252),
 (123, cO 123 "insert_token" "insert_token" 328 86 2 334),
 (124, fO 124 "insert_token" "insert_token" (stAt 17) .none "htmltree.inserting" 252),
 (130, cO 130 "insert_void" "insert_void" 337 90 2 343),
 (131, fO 131 "insert_void" "insert_void" (stAt 18) .none "htmltree.inserting" 252),
 (137, cO 137 "associate" "associate" 346 95 2 353),
 (138, fO 138 "associate" "associate" (stAt 19) .none "htmltree.inserting" 252),
 (151, cO 151 "__init__" "OpenStack.__init__" 370 109 2 375),
 (152, fO 152 "__init__" "OpenStack.__init__" (mtAt 21 0) .none "htmltree.openstack" 356),
 (158, cO 158 "push" "OpenStack.push" 378 113 2 383),
 (159, fO 159 "push" "OpenStack.push" (mtAt 21 1) .none "htmltree.openstack" 356),
 (165, cO 165 "pop" "OpenStack.pop" 386 116 1 390),
 (166, fO 166 "pop" "OpenStack.pop" (mtAt 21 2) .none "htmltree.openstack" 356),
 (172, cO 172 "current" "OpenStack.current" 393 121 1 397),
 (173, fO 173 "current" "OpenStack.current" (mtAt 21 3) .none "htmltree.openstack" 356),
 (179, cO 179 "many" "OpenStack.many" 400 126 1 404),
 (180, fO 180 "many" "OpenStack.many" (mtAt 21 4) .none "htmltree.openstack" 356),
 (214, cO 214 "name" "OpenStack.name" 440 144 1 445),
 (215, fO 215 "name" "OpenStack.name" (mtAt 21 9) .none "htmltree.openstack" 356),
 (221, cO 221 "has_name" "OpenStack.has_name" 448 150 2 454),
 (222, fO 222 "has_name" "OpenStack.has_name" (mtAt 21 10) .none "htmltree.openstack" 356),
 (228, cO 228 "pop_until" "OpenStack.pop_until" 457 156 2 464),
 (229, fO 229 "pop_until" "OpenStack.pop_until" (mtAt 21 11) .none "htmltree.openstack" 356),
 (235, cO 235 "pop_to" "OpenStack.pop_to" 467 164 2 472),
 (236, fO 236 "pop_to" "OpenStack.pop_to" (mtAt 21 12) .none "htmltree.openstack" 356),
 (238, o_238 P),
 (239, o_239 P),
 (249, cO 249 "stops_scope" "stops_scope" 485 167 3 493),
 (250, fO 250 "stops_scope" "stops_scope" (stAt 22) .none "htmltree.openstack" 356),
 (251, tO [(.str "" 496)]),
 (257, cO 257 "in_scope" "in_scope" 497 183 3 506),
 (258, fO 258 "in_scope" "in_scope" (stAt 23) (.ref 251) "htmltree.openstack" 356),
 (264, cO 264 "mode_of" "mode_of" 511 193 1 516),
 (265, fO 265 "mode_of" "mode_of" (stAt 25) .none "htmltree.reset" 509),
 (271, cO 271 "select_mode" "select_mode" 519 196 2 525),
 (272, fO 272 "select_mode" "select_mode" (stAt 26) .none "htmltree.reset" 509),
 (278, cO 278 "mode_for" "mode_for" 528 205 3 535),
 (279, fO 279 "mode_for" "mode_for" (stAt 27) .none "htmltree.reset" 509),
 (285, cO 285 "reset_mode" "reset_mode" 538 220 1 545),
 (286, fO 286 "reset_mode" "reset_mode" (stAt 28) .none "htmltree.reset" 509),
 (292, cO 292 "value_of" "value_of" 550 233 2 556),
 (293, fO 293 "value_of" "value_of" (stAt 30) .none "htmltree.tokens" 548),
 (299, cO 299 "is_space_token" "is_space_token" 559 238 1 563),
 (300, fO 300 "is_space_token" "is_space_token" (stAt 31) .none "htmltree.tokens" 548),
 (306, cO 306 "pop_to_table" "pop_to_table" 568 241 1 572),
 (307, fO 307 "pop_to_table" "pop_to_table" (stAt 33) .none "htmltree.tablemodes" 566),
 (313, cO 313 "outside_table" "outside_table" 575 243 2 580),
 (314, fO 314 "outside_table" "outside_table" (stAt 34) .none "htmltree.tablemodes" 566),
 (320, cO 320 "close_table" "close_table" 583 248 1 587),
 (321, fO 321 "close_table" "close_table" (stAt 35) .none "htmltree.tablemodes" 566),
 (327, cO 327 "open_part" "open_part" 590 254 2 596),
 (328, fO 328 "open_part" "open_part" (stAt 36) .none "htmltree.tablemodes" 566),
 (334, cO 334 "table_in_table" "table_in_table" 599 275 2 604),
 (335, fO 335 "table_in_table" "table_in_table" (stAt 37) .none "htmltree.tablemodes" 566),
 (341, cO 341 "input_in_table" "input_in_table" 607 279 2 613),
 (342, fO 342 "input_in_table" "input_in_table" (stAt 38) .none "htmltree.tablemodes" 566),
 (348, cO 348 "form_in_table" "form_in_table" 616 286 2 621),
 (349, fO 349 "form_in_table" "form_in_table" (stAt 39) .none "htmltree.tablemodes" 566),
 (355, cO 355 "start_in_table" "start_in_table" 624 291 2 630),
 (356, fO 356 "start_in_table" "start_in_table" (stAt 40) .none "htmltree.tablemodes" 566),
 (362, cO 362 "end_in_table" "end_in_table" 633 305 2 639),
 (363, fO 363 "end_in_table" "end_in_table" (stAt 41) .none "htmltree.tablemodes" 566),
 (369, cO 369 "sign_in_table" "sign_in_table" 642 316 2 647),
 (370, fO 370 "sign_in_table" "sign_in_table" (stAt 42) .none "htmltree.tablemodes" 566),
 (376, cO 376 "in_table" "in_table" 650 324 2 656),
 (377, fO 377 "in_table" "in_table" (stAt 43) .none "htmltree.tablemodes" 566),
 (383, cO 383 "flush_pending" "flush_pending" 659 338 1 666),
 (384, fO 384 "flush_pending" "flush_pending" (stAt 44) .none "htmltree.tablemodes" 566),
 (390, cO 390 "in_table_text" "in_table_text" 669 350 2 674),
 (391, fO 391 "in_table_text" "in_table_text" (stAt 45) .none "htmltree.tablemodes" 566),
 (397, cO 397 "table_rules" "table_rules" 677 359 0 680),
 (398, fO 398 "table_rules" "table_rules" (stAt 46) .none "htmltree.tablemodes" 566),
 (443, cO 443 "__init__" "Formatting.__init__" 744 372 2 749),
 (444, fO 444 "__init__" "Formatting.__init__" (mtAt 51 0) .none "htmltree.formatting" 730),
 (509, o_509 P),
 (510, o_510 P),
 (534, cO 534 "__init__" "Tree.__init__" 861 427 1 865),
 (535, fO 535 "__init__" "Tree.__init__" (mtAt 54 0) .none "htmltree.tree" 847),
 (536, tO []),
 (537, tO [(.str "" 868), (.str "" 869), (.ref 536), (.str "" 870)]),
 (543, cO 543 "add" "Tree.add" 871 438 6 880),
 (544, fO 544 "add" "Tree.add" (mtAt 54 1) (.ref 537) "htmltree.tree" 847),
 (545, tO []),
 (546, tO [(.str "html" 883), (.ref 545)]),
 (552, cO 552 "element" "Tree.element" 884 448 4 892),
 (553, fO 553 "element" "Tree.element" (mtAt 54 2) (.ref 546) "htmltree.tree" 847),
 (559, cO 559 "text" "Tree.text" 895 454 2 900),
 (560, fO 560 "text" "Tree.text" (mtAt 54 3) .none "htmltree.tree" 847),
 (566, cO 566 "comment" "Tree.comment" 903 457 2 908),
 (567, fO 567 "comment" "Tree.comment" (mtAt 54 4) .none "htmltree.tree" 847),
 (575, tO [(.int (-1) 922)]),
 (581, cO 581 "insert" "Tree.insert" 923 463 4 931),
 (582, fO 582 "insert" "Tree.insert" (mtAt 54 6) (.ref 575) "htmltree.tree" 847),
 (588, cO 588 "append" "Tree.append" 934 477 3 940),
 (589, fO 589 "append" "Tree.append" (mtAt 54 7) .none "htmltree.tree" 847),
 (595, cO 595 "remove" "Tree.remove" 943 480 2 948),
 (596, fO 596 "remove" "Tree.remove" (mtAt 54 8) .none "htmltree.tree" 847),
 (609, cO 609 "place" "Tree.place" 960 488 2 965),
 (610, fO 610 "place" "Tree.place" (mtAt 54 10) .none "htmltree.tree" 847),
 (616, cO 616 "last" "Tree.last" 968 493 2 973),
 (617, fO 617 "last" "Tree.last" (mtAt 54 11) .none "htmltree.tree" 847),
 (623, cO 623 "value" "Tree.value" 976 498 3 983),
 (624, fO 624 "value" "Tree.value" (mtAt 54 12) .none "htmltree.tree" 847),
 (630, cO 630 "is_html" "Tree.is_html" 986 504 3 992),
 (631, fO 631 "is_html" "Tree.is_html" (mtAt 54 13) .none "htmltree.tree" 847),
 (633, o_633 P),
 (634, o_634 P),
 (644, cO 644 "above" "above" 1011 506 2 1018),
 (645, fO 645 "above" "above" (stAt 55) .none "htmltree.tree" 847),
 (653, tO [(.bool false)]),
 (659, cO 659 "__init__" "Builder.__init__" 1035 516 3 1041),
 (660, fO 660 "__init__" "Builder.__init__" (mtAt 57 0) (.ref 653) "htmltree.builder" 1021),
 (666, cO 666 "error" "Builder.error" 1044 539 2 1049),
 (667, fO 667 "error" "Builder.error" (mtAt 57 1) .none "htmltree.builder" 1021),
 (673, cO 673 "to" "Builder.to" 1052 542 2 1057),
 (674, fO 674 "to" "Builder.to" (mtAt 57 2) .none "htmltree.builder" 1021),
 (680, cO 680 "use" "Builder.use" 1060 545 3 1067),
 (681, fO 681 "use" "Builder.use" (mtAt 57 3) .none "htmltree.builder" 1021),
 (687, cO 687 "process" "Builder.process" 1070 551 2 1075),
 (688, fO 688 "process" "Builder.process" (mtAt 57 4) .none "htmltree.builder" 1021),
 (694, cO 694 "feed" "Builder.feed" 1078 557 2 1083),
 (695, fO 695 "feed" "Builder.feed" (mtAt 57 5) .none "htmltree.builder" 1021),
 (701, cO 701 "adjusted" "Builder.adjusted" 1086 569 1 1090),
 (702, fO 702 "adjusted" "Builder.adjusted" (mtAt 57 6) .none "htmltree.builder" 1021),
 (708, cO 708 "is_foreign" "Builder.is_foreign" 1093 574 1 1098),
 (709, fO 709 "is_foreign" "Builder.is_foreign" (mtAt 57 7) .none "htmltree.builder" 1021),
 (711, o_711 P),
 (712, o_712 P),
 (722, cO 722 "is_html_turn" "is_html_turn" 1130 577 2 1137),
 (723, fO 723 "is_html_turn" "is_html_turn" (stAt 58) .none "htmltree.builder" 1021),
 (724, tO [(.str "in body" 1142)]),
 (730, cO 730 "ready" "ready" 1143 592 2 1150),
 (731, fO 731 "ready" "ready" (stAt 60) (.ref 724) "htmltree.ready" 1140),
 (737, cO 737 "_law_digit" "_law_digit" 1155 602 2 1160),
 (738, fO 738 "_law_digit" "_law_digit" (stAt 62) .none "law_nt0622_01" 1153),
 (744, cO 744 "_law_body" "_law_body" 1163 604 2 1168),
 (745, fO 745 "_law_body" "_law_body" (stAt 63) .none "law_nt0622_01" 1153),
 (751, cO 751 "_law_head" "_law_head" 1171 619 2 1176),
 (752, fO 752 "_law_head" "_law_head" (stAt 64) .none "law_nt0622_01" 1153),
 (758, cO 758 "_law_part" "_law_part" 1179 625 2 1184),
 (759, fO 759 "_law_part" "_law_part" (stAt 65) .none "law_nt0622_01" 1153),
 (763, cN 763 "_law_plain" "_law_plain" 1187 634 2 1190),
 (764, fO 764 "_law_plain" "_law_plain" (stAt 66) .none "law_nt0622_01" 1153),
 (770, cO 770 "_law_signs" "_law_signs" 1193 638 1 1201),
 (771, fO 771 "_law_signs" "_law_signs" (stAt 67) .none "law_nt0622_01" 1153),
 (777, cO 777 "_law_put" "_law_put" 1204 646 2 1209),
 (778, fO 778 "_law_put" "_law_put" (stAt 68) .none "law_nt0622_01" 1153),
 (784, cO 784 "_law_read" "_law_read" 1212 653 2 1218),
 (785, fO 785 "_law_read" "_law_read" (stAt 69) .none "law_nt0622_01" 1153),
 (789, cN 789 "_law_settle" "_law_settle" 1221 660 2 1224),
 (790, fO 790 "_law_settle" "_law_settle" (stAt 70) .none "law_nt0622_01" 1153),
 (796, cO 796 "_law_start" "_law_start" 1227 670 5 1236),
 (797, fO 797 "_law_start" "_law_start" (stAt 71) .none "law_nt0622_01" 1153),
 (803, cO 803 "_law_taken" "_law_taken" 1239 676 5 1250),
 (804, fO 804 "_law_taken" "_law_taken" (stAt 72) .none "law_nt0622_01" 1153),
 (810, cO 810 "_law_fostered" "_law_fostered" 1253 702 4 1263),
 (811, fO 811 "_law_fostered" "_law_fostered" (stAt 73) .none "law_nt0622_01" 1153),
 (817, cO 817 "_law_gap" "_law_gap" 1266 720 5 1276),
 (818, fO 818 "_law_gap" "_law_gap" (stAt 74) .none "law_nt0622_01" 1153),
 (822, cN 822 "law" "law" 1279 732 1 1282),
 (823, fO 823 "law" "law" (stAt 75) .none "law_nt0622_01" 1153)]
noncomputable def adrs : List Nat := [1, 2, 3, 27, 28, 34, 35, 41, 42, 48, 49, 55, 56, 62, 63, 69, 70, 76, 77, 78, 84, 85, 91, 92, 93, 99, 100, 101, 107, 108, 109, 110, 116, 117, 123, 124, 130, 131, 137, 138, 151, 152, 158, 159, 165, 166, 172, 173, 179, 180, 214, 215, 221, 222, 228, 229, 235, 236, 238, 239, 249, 250, 251, 257, 258, 264, 265, 271, 272, 278, 279, 285, 286, 292, 293, 299, 300, 306, 307, 313, 314, 320, 321, 327, 328, 334, 335, 341, 342, 348, 349, 355, 356, 362, 363, 369, 370, 376, 377, 383, 384, 390, 391, 397, 398, 443, 444, 509, 510, 534, 535, 536, 537, 543, 544, 545, 546, 552, 553, 559, 560, 566, 567, 575, 581, 582, 588, 589, 595, 596, 609, 610, 616, 617, 623, 624, 630, 631, 633, 634, 644, 645, 653, 659, 660, 666, 667, 673, 674, 680, 681, 687, 688, 694, 695, 701, 702, 708, 709, 711, 712, 722, 723, 724, 730, 731, 737, 738, 744, 745, 751, 752, 758, 759, 763, 764, 770, 771, 777, 778, 784, 785, 789, 790, 796, 797, 803, 804, 810, 811, 817, 818, 822, 823]
end
end
section
open PySem PySem.W PyProof.Rows PySem.Calls
theorem hZ {P : Prop} (h : ∀ G : Prop, (P → G) → G) : P := h P id
set_option genInjectivity true in
inductive Id
 | tree | stack | fmt | bld | kinds | spaces | names | attrs | texts | parents | children | contents | items | fitems | errors | owners | modes | rules
 | pend (k : Nat)
 | kd (k : Nat)
 | at (k : Nat)
 | tm (k : Nat)
 | lw (k : Nat)
 | lx (k : Nat)
noncomputable def Id.cd (i : Id) : Nat × Nat := Id.casesOn (motive := fun _ => Nat × Nat) i (0, 0) (1, 0) (2, 0) (3, 0) (4, 0) (5, 0) (6, 0) (7, 0) (8, 0) (9, 0) (10, 0) (11, 0) (12, 0) (13, 0) (14, 0) (15, 0) (16, 0) (17, 0) (fun k => (18, k)) (fun k => (19, k)) (fun k => (20, k)) (fun k => (21, k)) (fun k => (22, k)) (fun k => (23, k))
noncomputable def Id.dc (p : Nat × Nat) : Id := ([.tree, .stack, .fmt, .bld, .kinds, .spaces, .names, .attrs, .texts, .parents, .children, .contents, .items, .fitems, .errors, .owners, .modes, .rules, .pend p.2, .kd p.2, .at p.2, .tm p.2, .lw p.2, .lx p.2] : List Id).getD p.1 .tree
theorem Id.dc_cd (i : Id) : Id.dc i.cd = i := by cases i <;> rfl
noncomputable def Id.dec (a b : Id) : Decidable (a = b) := if h : a.cd = b.cd then isTrue ((Id.dc_cd a).symm.trans ((congrArg Id.dc h).trans (Id.dc_cd b))) else isFalse fun e => h (congrArg Id.cd e)
noncomputable def Id.tg (i : Id) : Nat := Id.rec 0 1 2 3 4 5 6 7 8 9 10 11 12 13 14 15 16 17 (fun _ => 18) (fun _ => 19) (fun _ => 20) (fun _ => 21) (fun _ => 22) (fun k => 23 + k) i
theorem neT {a b : Id} (h : Nat.beq a.tg b.tg = false) : a ≠ b := fun e => nomatch (Nat.beq_refl _).symm.trans (e ▸ h : Nat.beq b.tg b.tg = false)
inductive AV
 | none
 | bool (b : Bool)
 | int (i : Int)
 | str (x : Str)
 | tup (l : List AV)
 | ref (i : Id)
 | glob (v : Value)
inductive AO
 | lst (l : List AV)
 | dcs (es : List (Str × AV))
 | dci (es : List (Int × AV)) (ep : Nat)
 | ins (C : Addr) (fs : List (Str × AV))
 | rng (a b c : Int)
 | itm (i : Id)
inductive Cell
 | free
 | dead
 | live (o : AO)
abbrev AH := Id → Cell
abbrev Mp := Id → Bool → Option Addr
noncomputable def upd (H : AH) (i : Id) (c : Cell) : AH := haveI := Id.dec; fun j => if j = i then c else H j
theorem aA2 {H : AH} {i : Id} {c : Cell} : upd H i c i = c := if_pos rfl
theorem aA0 {H : AH} {i j : Id} {c d : Cell} (n : j ≠ i) (h : H j = d) : upd H i c j = d := (if_neg n).trans h
noncomputable abbrev tupO (vs : Array Value) (n : Nat) : Obj := { cls := .type "tuple", data := .seq vs n }
def TK (h h' : Heap) : Prop := ∀ a vs n, h.get? a = some (tupO vs n) → h'.get? a = some (tupO vs n)
mutual
inductive VR (φ : Mp) (h : Heap) : AV → Value → Prop
 | none : VR φ h .none .none
 | bool (b : Bool) : VR φ h (.bool b) (.bool b)
 | int (i : Int) (t : Tok) : VR φ h (.int i) (.int i t)
 | str (x : Str) (t : Tok) : VR φ h (.str x) (.str x t)
 | tup {l : List AV} {a : Addr} {vs : List Value} {n : Nat} : h.get? a = some (tupO vs.toArray n) → VRs φ h l vs → VR φ h (.tup l) (.ref a)
 | ref {i : Id} {a : Addr} : φ i false = some a → VR φ h (.ref i) (.ref a)
 | glob (v : Value) : VR φ h (.glob v) v
inductive VRs (φ : Mp) (h : Heap) : List AV → List Value → Prop
 | nil : VRs φ h [] []
 | cons {v : AV} {x : Value} {l : List AV} {xs : List Value} : VR φ h v x → VRs φ h l xs → VRs φ h (v :: l) (x :: xs)
end
theorem VR.mono {φ φ' : Mp} {h h' : Heap} (hφ : ∀ i b a, φ i b = some a → φ' i b = some a) (hh : TK h h') {v : AV} {x : Value} (r : VR φ h v x) : VR φ' h' v x :=
 @VR.rec φ h (fun v x _ => VR φ' h' v x) (fun l xs _ => VRs φ' h' l xs) .none (fun b => .bool b) (fun i t => .int i t) (fun x t => .str x t) (fun e _ r => .tup (hh _ _ _ e) r) (fun e => .ref (hφ _ _ _ e)) (fun v => .glob v) .nil (fun _ _ a r => .cons a r) _ _ r
theorem VRs.mono {φ φ' : Mp} {h h' : Heap} (hφ : ∀ i b a, φ i b = some a → φ' i b = some a) (hh : TK h h') {l : List AV} {xs : List Value} (r : VRs φ h l xs) : VRs φ' h' l xs :=
 @VRs.rec φ h (fun v x _ => VR φ' h' v x) (fun l xs _ => VRs φ' h' l xs) .none (fun b => .bool b) (fun i t => .int i t) (fun x t => .str x t) (fun e _ r => .tup (hh _ _ _ e) r) (fun e => .ref (hφ _ _ _ e)) (fun v => .glob v) .nil (fun _ _ a r => .cons a r) _ _ r
theorem VRs.length {φ : Mp} {h : Heap} {l : List AV} {xs : List Value} (r : VRs φ h l xs) : xs.length = l.length := by
 induction l generalizing xs with
 | nil => cases r; rfl
 | cons v l ih => cases r with | cons _ r => rw [List.length_cons, List.length_cons, ih r]
theorem VRs.append {φ : Mp} {h : Heap} {l k : List AV} {xs ys : List Value} (r : VRs φ h l xs) (q : VRs φ h k ys) : VRs φ h (l ++ k) (xs ++ ys) := by
 induction l generalizing xs with
 | nil => cases r; exact q
 | cons v l ih => cases r with | cons a r => exact .cons a (ih r)
theorem VRs.get {φ : Mp} {h : Heap} {l : List AV} {xs : List Value} (r : VRs φ h l xs) {k : Nat} {v : AV} (e : l[k]? = some v) : ∃ x, xs[k]? = some x ∧ VR φ h v x := by
 induction l generalizing xs k with
 | nil => cases e
 | cons u l ih =>
  cases r with
  | cons a r =>
   cases k with
   | zero => cases e; exact ⟨_, rfl, a⟩
   | succ k => exact ih r e
theorem VRs.set {φ : Mp} {h : Heap} {l : List AV} {xs : List Value} (r : VRs φ h l xs) {v : AV} {x : Value} (q : VR φ h v x) (k : Nat) : VRs φ h (l.set k v) (xs.set k x) := by
 induction l generalizing xs k with
 | nil => cases r; exact .nil
 | cons u l ih =>
  cases r with
  | cons a r =>
   cases k with
   | zero => exact .cons q r
   | succ k => exact .cons a (ih r k)
inductive ES {T : Type} (φ : Mp) (h : Heap) : List (T × AV) → List (T × Value) → Prop
 | nil : ES φ h [] []
 | cons {k : T} {v : AV} {x : Value} {es : List (T × AV)} {xs : List (T × Value)} : VR φ h v x → ES φ h es xs → ES φ h ((k, v) :: es) ((k, x) :: xs)
theorem ES.mono {T : Type} {φ φ' : Mp} {h h' : Heap} (hφ : ∀ i b a, φ i b = some a → φ' i b = some a) (hh : TK h h')
  {es : List (T × AV)} {xs : List (T × Value)} (r : ES φ h es xs) : ES φ' h' es xs := by
 induction r with
 | nil => exact .nil
 | cons a _ ih => exact .cons (a.mono hφ hh) ih
theorem ES.keys {T : Type} {φ : Mp} {h : Heap} {es : List (T × AV)} {xs : List (T × Value)} (r : ES φ h es xs) : xs.map (·.1) = es.map (·.1) := by
 induction r with
 | nil => rfl
 | cons _ _ ih => simp [ih]
theorem ES.length {T : Type} {φ : Mp} {h : Heap} {es : List (T × AV)} {xs : List (T × Value)} (r : ES φ h es xs) : xs.length = es.length := by
 induction r with
 | nil => rfl
 | cons _ _ ih => simp [ih]
section
variable (w : World)
def OAt (φ : Mp) (h : Heap) (i : Id) (a : Addr) : AO → Prop
 | .lst l => ∃ vs n, h.get? a = some (listOf (List.toArray vs) n) ∧ VRs φ h l vs
 | .dcs es => ∃ kvs, h.DictOf (strKind pw w) a kvs ∧ ES φ h es kvs
 | .dci es ep => ∃ kvs, h.DictAt (intKind pw w) a kvs ep ∧ ES φ h es kvs
 | .ins C fs => ∃ dx kvs, h.get? a = some (instObj C dx) ∧ φ i true = some dx ∧ h.DictOf (strKind pw w) dx kvs ∧ ES φ h fs kvs ∧ ∀ p ∈ fs, findIn (K w.params) (.ref C) p.1 = some Option.none
 | .rng x y z => ∃ t u v, IsRange h a x y z t u v
 | .itm j => ∃ d, φ j false = some d ∧ h.IsItemsView a d
structure St (h₀ : Heap) (φ : Mp) (H : AH) (h : Heap) : Prop where
 base : ∀ b o, h₀.get? b = some o → h.get? b = some o
 above : ∀ i b a, φ i b = some a → h₀.get? a = none
 there : ∀ i b a, φ i b = some a → ∃ o, h.get? a = some o ∧ o.cls ≠ .type "tuple"
 inj : ∀ i b j c a, φ i b = some a → φ j c = some a → i = j ∧ b = c
 free : ∀ i, H i = .free → ∀ b, φ i b = none
 live : ∀ i o, H i = .live o → ∃ a, φ i false = some a ∧ OAt w φ h i a o
def foot (φ : Mp) (a : Addr) : Prop := ∃ i b, φ i b = some a
structure Go (φ : Mp) (s : Shared) (φ' : Mp) (s' : Shared) : Prop where
 rest : ∃ h' t', s' = { s with heap := h', toks := t' }
 al : ∀ a, s'.heap.get? a = none → s.heap.get? a = none
 keep : ∀ b o, s.heap.get? b = some o → ¬ foot φ b → s'.heap.get? b = some o
 ext : ∀ i b a, φ i b = some a → φ' i b = some a
 new : ∀ i b a, φ' i b = some a → φ i b = some a ∨ s.heap.get? a = none
variable {w}
theorem Go.refl {φ : Mp} {s : Shared} : Go φ s φ s := ⟨⟨s.heap, s.toks, rfl⟩, fun _ e => e, fun _ _ e _ => e, fun _ _ _ e => e, fun _ _ _ e => .inl e⟩
theorem Go.tok {φ : Mp} {s : Shared} {t : Nat} : Go φ s φ { s with toks := t } := ⟨⟨s.heap, t, rfl⟩, fun _ e => e, fun _ _ e _ => e, fun _ _ _ e => e, fun _ _ _ e => .inl e⟩
theorem Go.trans {φ φ₁ φ₂ : Mp} {s s₁ s₂ : Shared} (x : Go φ s φ₁ s₁) (y : Go φ₁ s₁ φ₂ s₂) : Go φ s φ₂ s₂ := by
 refine ⟨?_, fun a e => x.al a (y.al a e), fun b o e n => y.keep b o (x.keep b o e n) ?_, fun i b a e => y.ext _ _ _ (x.ext _ _ _ e), fun i b a e => ?_⟩
 ·obtain ⟨h1, t1, rfl⟩ := x.rest
  obtain ⟨h2, t2, rfl⟩ := y.rest
  exact ⟨h2, t2, rfl⟩
 ·rintro ⟨i, c, q⟩
  rcases x.new _ _ _ q with q | q
  ·exact n ⟨i, c, q⟩
  ·rwa [e] at q
 ·rcases y.new _ _ _ e with q | q
  ·exact x.new _ _ _ q
  ·exact .inr (x.al a q)
theorem St.tup {h₀ : Heap} {φ : Mp} {H : AH} {s : Shared} (S : St w h₀ φ H s.heap) {φ' : Mp} {s' : Shared} (g : Go φ s φ' s') : TK s.heap s'.heap := by
 intro a vs k e
 refine g.keep a _ e ?_
 rintro ⟨i, b, q⟩
 obtain ⟨o', e', n⟩ := S.there _ _ _ q
 rwa [e] at e'
 exact n rfl
theorem VR.go {h₀ : Heap} {φ φ' : Mp} {H : AH} {s s' : Shared} {v : AV} {x : Value} (r : VR φ s.heap v x) (S : St w h₀ φ H s.heap) (g : Go φ s φ' s') : VR φ' s'.heap v x := r.mono g.ext (S.tup g)
theorem VRs.go {h₀ : Heap} {φ φ' : Mp} {H : AH} {s s' : Shared} {v : List AV} {x : List Value} (r : VRs φ s.heap v x) (S : St w h₀ φ H s.heap) (g : Go φ s φ' s') : VRs φ' s'.heap v x := r.mono g.ext (S.tup g)
end
abbrev Loc := List (Str × Option AV)
structure FC where
 scope : Scope
 cells : Addr → List (Str × Addr)
 qual : Str
 func : Option Addr
 code : Value
 frame : Addr → Option Addr
noncomputable abbrev FC.env (fc : FC) (L : Addr) : Env := { scope := fc.scope, locals := L, globals := mainGlobals, cells := fc.cells L, qual := fc.qual, func := fc.func, code := fc.code, frame := fc.frame L, builtins := builtinsNs }
noncomputable abbrev fnF (name : Str) (scope : Scope) (addr : Addr) (code : Value) : FC := ⟨scope, fun _ => [], name ++ ".<locals>.", some addr, code, fun L => some L⟩
noncomputable abbrev fnC (name : Str) (scope : Scope) (addr : Addr) (code : Value) : FC := ⟨scope, fun L => cellsFrom (L + 1) scope.names [], name ++ ".<locals>.", some addr, code, fun L => some L⟩
def own (fc : FC) (L b : Addr) : Prop := b = L ∨ ∃ n, (n, b) ∈ fc.cells L
def VarAt (fc : FC) (L : Addr) (m : Str → Option Value) (h : Heap) (x : Str) (y : Value) : Prop :=
 (fc.scope.names.lookup x = some .local ∧ m x = some y) ∨ (fc.scope.names.lookup x = some .cell ∧ ∃ c, (fc.cells L).lookup x = some c ∧ h.IsCell c (some y))
structure LR (fc : FC) (L : Addr) (φ : Mp) (h : Heap) (ρ : Loc) (m : Str → Option Value) : Prop where
 nd : (ρ.map (·.1)).Nodup
 loc : ∀ p ∈ ρ, fc.scope.names.lookup p.1 = some .local ∨ (fc.scope.names.lookup p.1 = some .cell ∧ ∃ c v, (fc.cells L).lookup p.1 = some c ∧ h.IsCell c v)
 val : ∀ x v, (x, some v) ∈ ρ → ∃ y, VarAt fc L m h x y ∧ VR φ h v y
structure Cx where
 w : World
 h₀ : Heap
 mg : Str → Option Value
 mb : Str → Option Value
 hK : (K w.params).In h₀
 g : h₀.Ns mainGlobals mg
 b : h₀.Ns builtinsNs mb
 bi : ∀ x : Str, x ≠ "__name__" → mb x = bootBuiltins x
 lim : h₀.NoLimit
 mods : ∃ o, h₀.get? sysModules = some o
structure Room (A : Around) (d : Nat) : Prop where
 handled : A.handled = none
 depth : A.depth + 2 * d ≤ 900
 units : A.units + 40 * d ≤ 9000
structure Here (Γ : Cx) (fc : FC) (φ : Mp) (H : AH) (ρ : Loc) (L : Addr) (m : Str → Option Value) (h : Heap) : Prop where
 ns : h.Ns L m
 ow : ∀ b, own fc L b → Γ.h₀.get? b = none ∧ ¬ foot φ b ∧ ∃ o, h.get? b = some o ∧ ∀ vs n, o.data ≠ .seq vs n
 ap : (fc.cells L).Pairwise fun x y => x.2 ≠ y.2
 nL : ∀ n c, (n, c) ∈ fc.cells L → c ≠ L
 lr : LR fc L φ h ρ m
 st : St Γ.w Γ.h₀ φ H h
theorem VarAt.move {fc : FC} {L : Addr} {m : Str → Option Value} {h h' : Heap} {x : Str} {y : Value} (v : VarAt fc L m h x y) (k : ∀ b o, own fc L b → h.get? b = some o → h'.get? b = some o) : VarAt fc L m h' x y := by
 rcases v with v | ⟨v1, c, v2, o, v3, v4⟩
 ·exact .inl v
 ·exact .inr ⟨v1, c, v2, o, k c o (.inr ⟨_, mem_of_lookup v2⟩) v3, v4⟩
theorem LR.move {fc : FC} {L : Addr} {φ φ' : Mp} {m : Str → Option Value} {h h' : Heap} {ρ : Loc} (x : LR fc L φ h ρ m) (k : ∀ b o, own fc L b → h.get? b = some o → h'.get? b = some o) (kv : ∀ v y, VR φ h v y → VR φ' h' v y) : LR fc L φ' h' ρ m := by
 refine ⟨x.nd, fun p hp => ?_, fun y v hy => ?_⟩
 ·rcases x.loc p hp with e | ⟨e, c, v, e1, o, e2, e3⟩
  ·exact .inl e
  ·exact .inr ⟨e, c, v, e1, o, k c o (.inr ⟨_, mem_of_lookup e1⟩) e2, e3⟩
 ·obtain ⟨z, h1, h2⟩ := x.val y v hy
  exact ⟨z, h1.move k, kv _ _ h2⟩
theorem Ns.move {L : Addr} {m : Str → Option Value} {h h' : Heap} (n : h.Ns L m) (k : ∀ o, h.get? L = some o → h'.get? L = some o) : h'.Ns L m :=
 let ⟨o, es, ep, e, r⟩ := n; ⟨o, es, ep, k o e, r⟩
theorem Here.go {Γ : Cx} {fc : FC} {φ φ' : Mp} {H H' : AH} {ρ : Loc} {L : Addr} {m : Str → Option Value} {s s' : Shared} (x : Here Γ fc φ H ρ L m s.heap) (g : Go φ s φ' s') (S : St Γ.w Γ.h₀ φ' H' s'.heap) : Here Γ fc φ' H' ρ L m s'.heap := by
 have k : ∀ b o, own fc L b → s.heap.get? b = some o → s'.heap.get? b = some o := fun b o ob e => g.keep b o e (x.ow b ob).2.1
 refine ⟨Ns.move x.ns fun o e => k L o (.inl rfl) e, fun b ob => ?_, x.ap, x.nL, x.lr.move k fun v y r => r.go x.st g, S⟩
 obtain ⟨h1, h2, o, h3, h4⟩ := x.ow b ob
 refine ⟨h1, ?_, o, k b o ob h3, h4⟩
 rintro ⟨i, c, q⟩
 rcases g.new _ _ _ q with q | q
 ·exact h2 ⟨i, c, q⟩
 ·rwa [h3] at q
abbrev noE : Value → Shared → Prop := fun _ _ => False
inductive Post (Γ : Cx) (φ : Mp) (s : Shared) (Q : AV → AH → Prop) (x : Value) (s' : Shared) : Prop
 | mk (v : AV) (H' : AH) (φ' : Mp) : Q v H' → VR φ' s'.heap v x → Go φ s φ' s' → St Γ.w Γ.h₀ φ' H' s'.heap → Post Γ φ s Q x s'
structure Ev (Γ : Cx) (fc : FC) (d : Nat) (e : Expr) (ρ : Loc) (H : AH) (Q : AV → AH → Prop) : Prop where
 go : ∀ (A : Around) (s : Shared) (φ : Mp) (L : Addr) (m : Str → Option Value), Room A d → fc.scope.kind = .function → Here Γ fc φ H ρ L m s.heap →
  wpAny (model pw Γ.w) A (eval e (fc.env L)) (Post Γ φ s Q) noE s
structure Tv (Γ : Cx) (fc : FC) (d : Nat) (e : Expr) (ρ : Loc) (H : AH) (Q : Bool → AH → Prop) : Prop where
 go : ∀ (A : Around) (s : Shared) (φ : Mp) (L : Addr) (m : Str → Option Value), Room A d → fc.scope.kind = .function → Here Γ fc φ H ρ L m s.heap →
  wpAny (model pw Γ.w) A (isTrue e (fc.env L) (eval e (fc.env L))) (fun b s' => ∃ H' φ', Q b H' ∧ Go φ s φ' s' ∧ St Γ.w Γ.h₀ φ' H' s'.heap) noE s
inductive AF
 | next | brk | cont
 | ret (v : AV)
inductive FV (φ : Mp) (h : Heap) : AF → Flow → Prop
 | next : FV φ h .next .next
 | brk : FV φ h .brk .brk
 | cont : FV φ h .cont .cont
 | ret {v : AV} {x : Value} : VR φ h v x → FV φ h (.ret v) (.ret x)
structure GoL (fc : FC) (L : Addr) (φ : Mp) (s : Shared) (φ' : Mp) (s' : Shared) : Prop where
 rest : ∃ h' t', s' = { s with heap := h', toks := t' }
 al : ∀ a, s'.heap.get? a = none → s.heap.get? a = none
 keep : ∀ b o, ¬ own fc L b → s.heap.get? b = some o → ¬ foot φ b → s'.heap.get? b = some o
 ext : ∀ i b a, φ i b = some a → φ' i b = some a
 new : ∀ i b a, φ' i b = some a → φ i b = some a ∨ s.heap.get? a = none
theorem Go.toL {fc : FC} {L : Addr} {φ φ' : Mp} {s s' : Shared} (g : Go φ s φ' s') : GoL fc L φ s φ' s' := ⟨g.rest, g.al, fun b o _ e n => g.keep b o e n, g.ext, g.new⟩
theorem GoL.refl {fc : FC} {L : Addr} {φ : Mp} {s : Shared} : GoL fc L φ s φ s := Go.refl.toL
theorem GoL.trans {fc : FC} {L : Addr} {φ φ₁ φ₂ : Mp} {s s₁ s₂ : Shared} (x : GoL fc L φ s φ₁ s₁) (y : GoL fc L φ₁ s₁ φ₂ s₂) : GoL fc L φ s φ₂ s₂ := by
 refine ⟨?_, fun a e => x.al a (y.al a e), fun b o hL e n => y.keep b o hL (x.keep b o hL e n) ?_, fun i b a e => y.ext _ _ _ (x.ext _ _ _ e), fun i b a e => ?_⟩
 ·obtain ⟨h1, t1, rfl⟩ := x.rest
  obtain ⟨h2, t2, rfl⟩ := y.rest
  exact ⟨h2, t2, rfl⟩
 ·rintro ⟨i, c, q⟩
  rcases x.new _ _ _ q with q | q
  ·exact n ⟨i, c, q⟩
  ·rwa [e] at q
 ·rcases y.new _ _ _ e with q | q
  ·exact x.new _ _ _ q
  ·exact .inr (x.al a q)
inductive PostF (Γ : Cx) (fc : FC) (L : Addr) (φ : Mp) (s : Shared) (Q : AF → Loc → AH → Prop) (f : Flow) (s' : Shared) : Prop
 | mk (a : AF) (ρ' : Loc) (H' : AH) (φ' : Mp) (m' : Str → Option Value) : Q a ρ' H' → FV φ' s'.heap a f → GoL fc L φ s φ' s' → Here Γ fc φ' H' ρ' L m' s'.heap → PostF Γ fc L φ s Q f s'
structure Ex (Γ : Cx) (fc : FC) (d : Nat) (e : Stmt) (ρ : Loc) (H : AH) (Q : AF → Loc → AH → Prop) : Prop where
 go : ∀ (A : Around) (s : Shared) (φ : Mp) (L : Addr) (m : Str → Option Value), Room A d → fc.scope.kind = .function → Here Γ fc φ H ρ L m s.heap →
  wpAny (model pw Γ.w) A (exec e (fc.env L)) (PostF Γ fc L φ s Q) noE s
structure Exs (Γ : Cx) (fc : FC) (d : Nat) (e : List Stmt) (ρ : Loc) (H : AH) (Q : AF → Loc → AH → Prop) : Prop where
 go : ∀ (A : Around) (s : Shared) (φ : Mp) (L : Addr) (m : Str → Option Value), Room A d → fc.scope.kind = .function → Here Γ fc φ H ρ L m s.heap →
  wpAny (model pw Γ.w) A (execs e (fc.env L)) (PostF Γ fc L φ s Q) noE s
structure Cl (Γ : Cx) (d : Nat) (f : Value) (args : List AV) (H : AH) (Q : AV → AH → Prop) : Prop where
 go : ∀ (A : Around) (s : Shared) (φ : Mp) (xs : List Value), Room A d → St Γ.w Γ.h₀ φ H s.heap → VRs φ s.heap args xs →
  wpAny (model pw Γ.w) A (call f xs) (Post Γ φ s Q) noE s
end
section
open PySem PySem.W PyProof.Rows PySem.Calls
theorem aAf {α : Type} {M : Model} {A : Around} {E : Value → Shared → Prop} {s : Shared} {t : Sem α} {Q Q' : α → Shared → Prop} (h : wpAny M A t Q E s) (k : ∀ a s', Q a s' → Q' a s') : wpAny M A t Q' E s :=
 wpAny_mono h k fun _ _ e => e
section
variable {Γ : Cx} {fc : FC} {d : Nat} {ρ : Loc} {H : AH}
theorem aB7 {φ : Mp} {s : Shared} {Q : AV → AH → Prop} {φ₁ : Mp} {s₁ : Shared} (g : Go φ s φ₁ s₁) {x : Value} {s₂ : Shared} (p : Post Γ φ₁ s₁ Q x s₂) : Post Γ φ s Q x s₂ := by
 obtain ⟨v, H', φ', q, r, g', S⟩ := p
 exact ⟨v, H', φ', q, r, g.trans g', S⟩
theorem aEy {φ : Mp} {s : Shared} {L : Addr} {Q : AF → Loc → AH → Prop} {φ₁ : Mp} {s₁ : Shared} (g : GoL fc L φ s φ₁ s₁) {x : Flow} {s₂ : Shared} (p : PostF Γ fc L φ₁ s₁ Q x s₂) : PostF Γ fc L φ s Q x s₂ := by
 obtain ⟨v, ρ', H', φ', m', q, r, g', S⟩ := p
 exact ⟨v, ρ', H', φ', m', q, r, g.trans g', S⟩
theorem aAe {φ : Mp} {s : Shared} {Q : AV → AH → Prop} {v : AV} {x : Value} {t : Nat} (q : Q v H) (r : VR φ s.heap v x) (S : St Γ.w Γ.h₀ φ H s.heap) : Post Γ φ s Q x { s with toks := t } :=
 ⟨v, H, φ, q, r, Go.tok, S⟩
theorem aAu {φ : Mp} {s : Shared} {Q : AV → AH → Prop} {v : AV} {x : Value} (q : Q v H) (r : VR φ s.heap v x) (S : St Γ.w Γ.h₀ φ H s.heap) : Post Γ φ s Q x s :=
 ⟨v, H, φ, q, r, Go.refl, S⟩
theorem Ev.mono {e : Expr} {Q Q' : AV → AH → Prop} (h : Ev Γ fc d e ρ H Q) (k : ∀ v H', Q v H' → Q' v H') : Ev Γ fc d e ρ H Q' := Ev.mk fun A s φ L m R hk x =>
 aAf (h.go A s φ L m R hk x) fun _ _ zz0 => by obtain ⟨v, H', φ', q, r, g, x⟩ := zz0; exact ⟨v, H', φ', k _ _ q, r, g, x⟩
theorem aAa {e : Expr} {Q : AV → AH → Prop} {A : Around} {s : Shared} {φ : Mp} {L : Addr} {m : Str → Option Value} {α : Type} {E : Value → Shared → Prop} {R : Value → Shared → Prop}
  (h : Ev Γ fc d e ρ H Q) (rm : Room A d) (hk : fc.scope.kind = .function) (x : Here Γ fc φ H ρ L m s.heap)
  (k : ∀ v H' φ' y s', Q v H' → VR φ' s'.heap v y → Go φ s φ' s' → Here Γ fc φ' H' ρ L m s'.heap → R y s') : wpAny (model pw Γ.w) A (eval e (fc.env L)) R noE s :=
 aAf (h.go A s φ L m rm hk x) fun y s' zz0 => by obtain ⟨v, H', φ', q, r, g, S⟩ := zz0; exact k v H' φ' y s' q r g (x.go g S)
theorem aFl {i : Int} {k : Nat} {p : Pos} {Q : AV → AH → Prop} (h : Q (.int i) H) : Ev Γ fc d (.Constant (.int i) k p) ρ H Q := Ev.mk fun A s φ L m R hk x =>
 wpAny_Constant_int (aAe h (.int _ _) x.st)
theorem aHu {i : Str} {k : Nat} {p : Pos} {Q : AV → AH → Prop} (h : Q (.str i) H) : Ev Γ fc d (.Constant (.str i) k p) ρ H Q := Ev.mk fun A s φ L m R hk x =>
 wpAny_Constant_str (aAe h (.str _ _) x.st)
theorem aTr {k : Nat} {p : Pos} {Q : AV → AH → Prop} (h : Q .none H) : Ev Γ fc d (.Constant .none k p) ρ H Q := Ev.mk fun A s φ L m R hk x =>
 wpAny_Constant_none (aAu h .none x.st)
theorem aTp {b : Bool} {k : Nat} {p : Pos} {Q : AV → AH → Prop} (h : Q (.bool b) H) : Ev Γ fc d (.Constant (.bool b) k p) ρ H Q := Ev.mk fun A s φ L m R hk x =>
 wpAny_Constant_bool (aAu h (.bool b) x.st)
theorem aDc {x : Str} (h : fc.scope.names.lookup ("__debug__" : Str) = none) {k : NameKind} (e : fc.scope.names.lookup x = some k) : (x == ("__debug__" : Str)) = false := by
 cases q : x == ("__debug__" : Str) with
 | false => rfl
 | true => rw [beq_iff_eq.mp q, h] at e; cases e
class Plain (fc : FC) : Prop where
 debug : fc.scope.names.lookup ("__debug__" : Str) = none
theorem aKu [P : Plain fc] {x : Str} {p : Pos} {v : AV} {Q : AV → AH → Prop} (hm : (x, some v) ∈ ρ) (h : Q v H) : Ev Γ fc d (.Name x p) ρ H Q := Ev.mk fun A s φ L m R hk y => by
 refine hZ fun GZ kZ => ?_
 obtain ⟨z, h1, h2⟩ := y.lr.val x v hm
 rcases h1 with ⟨hl, h1⟩ | ⟨hl, c, h3, h4⟩
 ·refine kZ ?_
  exact wpAny_Name (wpAny_loadName_local hk hl y.ns h1 (aAu h h2 y.st)) (aDc P.debug hl)
 ·refine kZ ?_
  exact wpAny_Name (wpAny_loadName_cell hk hl h3 h4 (aAu h h2 y.st)) (aDc P.debug hl)
theorem aNd [P : Plain fc] {x : Str} {p : Pos} {v : Value} {Q : AV → AH → Prop} (e : nsIn (K Γ.w.params) mainGlobals x = some (some v)) (hl : fc.scope.names.lookup x = some .globalImplicit)
  (h : Q (.glob v) H) : Ev Γ fc d (.Name x p) ρ H Q := Ev.mk fun A s φ L m R hk y =>
 Calls.Name_function_global hk hl (Calls.loadGlobal_global (env := fc.env L) (Γ.g.keeps y.st.base) (mg_of Γ.hK Γ.g e) (aAu h (.glob v) y.st)) (aDc P.debug hl)
theorem aTo [P : Plain fc] {x : Str} {p : Pos} {v : Value} {Q : AV → AH → Prop} (e : nsIn (K Γ.w.params) mainGlobals x = some none) (hv : bootBuiltins x = some v) (hn : x ≠ "__name__") (hl : fc.scope.names.lookup x = some .globalImplicit)
  (h : Q (.glob v) H) : Ev Γ fc d (.Name x p) ρ H Q := Ev.mk fun A s φ L m R hk y =>
 Calls.Name_function_global hk hl (Calls.loadGlobal_builtin (env := fc.env L) (Γ.g.keeps y.st.base) (mg_none_of Γ.hK Γ.g e) (Γ.b.keeps y.st.base) ((Γ.bi x hn).trans hv) (aAu h (.glob v) y.st)) (aDc P.debug hl)
theorem ES.find {φ : Mp} {h : Heap} {T : Type} [DecidableEq T] {es : List (T × AV)} {xs : List (T × Value)} (r : ES φ h es xs) (nd : (xs.map (·.1)).Nodup) {k : T} {v : AV} (hm : (k, v) ∈ es) : ∃ y, valueAt xs k = some y ∧ VR φ h v y := by
 induction r with
 | nil => cases hm
 | @cons k' v' x' es xs a r ih =>
  rw [List.map_cons, List.nodup_cons] at nd
  cases hm with
  | head => exact ⟨x', by simp [valueAt], a⟩
  | tail _ hm =>
   obtain ⟨y, h1, h2⟩ := ih nd.2 hm
   refine ⟨y, ?_, h2⟩
   have : k' ≠ k := by
    rintro rfl
    apply nd.1
    rw [r.keys]
    exact List.mem_map.mpr ⟨_, hm, rfl⟩
   simpa [valueAt, List.find?_cons, this] using h1
theorem aBn {w : World} {h : Heap} {a : Addr} {kvs : List (Str × Value)} (D : h.DictOf (strKind pw w) a kvs) : ∃ od, h.get? a = some od ∧ ∀ name, lookIn name od = some (valueAt kvs name) := by
 obtain ⟨o, es, ep, ho, hc, hd, hk, hp, hn⟩ := D
 refine ⟨o, ho, fun name => ?_⟩
 unfold lookIn
 rw [hd]
 dsimp only
 have e := hp.find name
 have q : (fun e : DictEntry => (strKind pw w).is name e.key) = fun e => e.key.isStr name := funext fun e => by
  show Value.isStrOf name e.key = _
  rw [isStr_of]
 rw [q] at e
 cases f : es.toList.find? (fun e => e.key.isStr name) with
 | some en => rw [f] at e; simp only [Option.map_some] at e; rw [← e]
 | none =>
  rw [f] at e
  simp only [Option.map_none] at e
  have : es.toList.any (·.refKey) = false := by
   rw [List.any_eq_false]
   intro en hen
   obtain ⟨k, hk', _⟩ := hk en (Array.mem_toList_iff.mp hen)
   obtain ⟨t, ht⟩ := Value.isStrOf_shape hk'
   simp [DictEntry.refKey, ht]
  simp only [this, Bool.false_eq_true, if_false]
  rw [← e]
structure ClsOk (P : Params) (C : Addr) : Prop where
 ga : findIn (K P) (.ref C) "__getattribute__" = some (some (.builtin "object.__getattribute__"))
 gx : findIn (K P) (.ref C) "__getattr__" = some none
 sa : findIn (K P) (.ref C) "__setattr__" = some (some (.builtin "object.__setattr__"))
 dict : hasDictIn (K P) C = true
 over : plainOver (K P) C = true
theorem aOw {φ : Mp} {i : Id} {a : Addr} {C : Addr} {fs : List (Str × AV)} {h : Heap} (o : OAt Γ.w φ h i a (.ins C fs)) :
  ∃ dx od kvs, InstAt h a (instObj C dx) C (some od) ∧ φ i true = some dx ∧ h.DictOf (strKind pw Γ.w) dx kvs ∧ ES φ h fs kvs ∧ (∀ name, lookIn name od = some (valueAt kvs name)) ∧
   ∀ p ∈ fs, findIn (K Γ.w.params) (.ref C) p.1 = some none := by
 refine hZ fun GZ kZ => ?_
 obtain ⟨dx, kvs, h1, h2, h3, h4, h5⟩ := o
 obtain ⟨od, h6, h7⟩ := aBn h3
 refine kZ ?_
 exact ⟨dx, od, kvs, ⟨h1, rfl, rfl, h6⟩, h2, h3, h4, h7, h5⟩
theorem aKc {A : Around} {s : Shared} {φ : Mp} {i : Id} {a C : Addr} {fs : List (Str × AV)} {n : Str} {v : AV} {b : Bool} {R : Value → Shared → Prop} (hc : ClsOk Γ.w.params C) (S : St Γ.w Γ.h₀ φ H s.heap) (hi : H i = .live (.ins C fs)) (ha : φ i false = some a) (hm : (n, v) ∈ fs)
  (h : ∀ y, VR φ s.heap v y → handedIn y = true → R y { s with toks := s.toks + 1 }) (hh : ∀ y, VR φ s.heap v y → handedIn y = true) : wpAny (model pw Γ.w) A (getAttr (.ref a) n b) R noE s := by
 refine hZ fun GZ kZ => ?_
 obtain ⟨a', e', o⟩ := S.live i _ hi
 rwa [ha] at e'
 obtain ⟨dx, od, kvs, I, _, D, E, hl, hp⟩ := aOw o
 have X : (K Γ.w.params).In s.heap := fun b o e => S.base _ _ (Γ.hK b o e)
 obtain ⟨_, _, _, _, _, _, _, _, nd⟩ := id D
 obtain ⟨y, e1, r⟩ := E.find nd hm
 refine kZ ?_
 refine get_value X I hc.ga ?_ (hh y r) (h y r (hh y r))
 exact findObj_own hc.dict (hp _ hm) rfl (by rw [hl, e1])
noncomputable def plainV : AV → Bool
 | .glob v => handedIn v
 | _ => true
theorem VR.handed {φ : Mp} {h : Heap} {v : AV} {y : Value} (r : VR φ h v y) (p : plainV v = true) : handedIn y = true := by cases r <;> first | rfl | exact p
theorem aTn {e : Expr} {n : Str} {p : Pos} {Q : AV → AH → Prop}
  (h : Ev Γ fc d e ρ H (fun v H' => ∃ i C fs u, v = .ref i ∧ H' i = .live (.ins C fs) ∧ ClsOk Γ.w.params C ∧ (n, u) ∈ fs ∧ plainV u = true ∧ Q u H'))
  (he : ∀ env, eval (.Attribute e n p) env = (do
   let o ← eval e env
   standAt p.atName
   let r ← holding [o] (getAttr o n true)
   letTemporaryGo e o r
   pure r) := by intro; rfl) : Ev Γ fc d (.Attribute e n p) ρ H Q := Ev.mk fun A s φ L m R hk x => by
 refine Attribute_any_ (aAa (α := Unit) (E := noE) h R hk x fun v H' φ' y s' zz0 r g x' => ?_) (he _)
 refine hZ fun GZ kZ => ?_
 obtain ⟨i, C, fs, u, hv, hi, hc, hm, pl, q⟩ := zz0
 subst hv
 refine kZ ?_
 cases r with
 | ref ha => exact aKc hc x'.st hi ha hm (fun z r' _ => aB7 g (aAe q r' x'.st)) fun z r' => r'.handed pl
end
end
section
open PySem PySem.W PyProof.Rows PySem.Calls
section
variable {Γ : Cx} {fc : FC} {d : Nat} {ρ : Loc} {H : AH}
theorem Here.inK {φ : Mp} {L : Addr} {m : Str → Option Value} {h : Heap} (x : Here Γ fc φ H ρ L m h) : (K Γ.w.params).In h := fun b o e => x.st.base _ _ (Γ.hK b o e)
theorem St.inK {φ : Mp} {h : Heap} (S : St Γ.w Γ.h₀ φ H h) : (K Γ.w.params).In h := fun b o e => S.base _ _ (Γ.hK b o e)
theorem Room.less {A : Around} {d d' : Nat} (R : Room A d) (h : d' ≤ d) : Room A d' := ⟨R.handled, by have := R.depth; exact zn [A.depth, d, d'] (.h 2 (.v 2) (.v 1) (.h 1 (.a (.v 0) (.m 2 (.v 1))) (.n 900) .e)) (.a (.v 0) (.m 2 (.v 2))) (.n 900) rfl h this, by have := R.units; exact zn [A.units, d, d'] (.h 40 (.v 2) (.v 1) (.h 1 (.a (.v 0) (.m 40 (.v 1))) (.n 9000) .e)) (.a (.v 0) (.m 40 (.v 2))) (.n 9000) rfl h this⟩
inductive PostL (Γ : Cx) (φ : Mp) (s : Shared) (Q : List AV → AH → Prop) (xs : List Value) (s' : Shared) : Prop
 | mk (vs : List AV) (H' : AH) (φ' : Mp) : Q vs H' → VRs φ' s'.heap vs xs → Go φ s φ' s' → St Γ.w Γ.h₀ φ' H' s'.heap → PostL Γ φ s Q xs s'
structure Evs (Γ : Cx) (fc : FC) (d : Nat) (es : List Expr) (ρ : Loc) (H : AH) (Q : List AV → AH → Prop) : Prop where
 go : ∀ (A : Around) (s : Shared) (φ : Mp) (L : Addr) (m : Str → Option Value) (pos : Pos), Room A d → fc.scope.kind = .function → Here Γ fc φ H ρ L m s.heap →
  wpAny (model pw Γ.w) A (spliced (backTo pos (starEach es (fc.env L)))) (PostL Γ φ s Q) noE s
abbrev KCons (v : AV) (Q : List AV → AH → Prop) : List AV → AH → Prop := fun vs H => Q (v :: vs) H
abbrev KEvs (Γ : Cx) (fc : FC) (d : Nat) (es : List Expr) (ρ : Loc) (Q : List AV → AH → Prop) : AV → AH → Prop := fun v H => Evs Γ fc d es ρ H (KCons v Q)
abbrev KTup (Q : AV → AH → Prop) : List AV → AH → Prop := fun vs H => Nat.ble vs.length 1000 = true ∧ Q (.tup vs) H
noncomputable def nst (e : Expr) : Bool := !Nat.beq e.ctorIdx 22
noncomputable def nsup (e : Expr) : Bool := !Nat.beq e.ctorIdx 16
noncomputable def nsl (e : Expr) : Bool := !Nat.beq e.ctorIdx 26
noncomputable def nlc (e : Expr) : Bool := !(Nat.ble 8 e.ctorIdx && Nat.ble e.ctorIdx 10)
noncomputable def mOk (o : Expr) (ap pos : Pos) (es : List Expr) : Bool := nsup o && (Nat.beq ap.endLine pos.line && (Nat.ble es.length 29 && es.all nst))
theorem aHi {e : Expr} (h : nlc e = true) (t : Option Expr) (l : Nat) (env : Env) : swapsWith e t l env = pure false := by
 cases e <;> first | rfl | cases h
theorem aJ4 {e : Expr} (es : List Expr) (env : Env) (h : nst e = true) : starEach (e :: es) env = (false, eval e env) :: starEach es env := by
 cases e <;> first | rfl | cases h
theorem aC2 {es : List Expr} (h : es.all nst = true) (env : Env) : (starEach es env).all (fun x => !x.1) = true := by
 induction es with
 | nil => rfl
 | cons e es ih =>
  have h := (Bool.and_eq_true_iff).mp h
  rw [aJ4 es env h.1]
  exact ih h.2
theorem aHx {o : Expr} {a : Str} {env : Env} {w : Sem Value} (h : nsup o = true) : attributeBase o a env w = w := by
 cases o <;> first | rfl | cases h
theorem aV9 {r : Expr} (h : nsl r = true) (x y : Value) : subscripted r false x y = operate [x, y] (getItem x y) := by
 cases r <;> first | rfl | (with_unfolding_all rfl) | cases h
theorem aWd {e : Expr} {n : Str} {p : Pos} (h : nsup e = true) (env : Env) : eval (.Attribute e n p) env = (do
   let o ← eval e env
   standAt p.atName
   let r ← holding [o] (getAttr o n true)
   letTemporaryGo e o r
   pure r) := by
 show (attributeBase e n env (eval e env) >>= _) = _
 rw [aHx h]
theorem aZ0 {o : Expr} {n : Str} {ap pos : Pos} {es : List Expr} (ok : mOk o ap pos es = true) (env : Env) : ∃ pl, eval (.Call (.Attribute o n ap) es [] pos) env = (do
   let ov ← eval o env
   standAt ap.atName
   let (f, first) ← holding [ov] (getMethod ov n pl)
   callWith pos f first (backTo pos (starEach es env)) (backToKw pos (keywordEach [] env))) := by
 have h1 := (Bool.and_eq_true_iff).mp ok
 have h2 := (Bool.and_eq_true_iff).mp h1.2
 have h3 := (Bool.and_eq_true_iff).mp h2.2
 have hf : methodCallForm (es.length + 0) (backTo pos (starEach es env)) (backToKw pos (keywordEach [] env)) = true := by
  have : ∀ l : List (Bool × Sem Value), l.all (fun x => !x.1) = true → (backTo pos l).all (fun x => !x.1) = true := fun l h => by
   unfold backTo; rw [List.all_map]; exact h
  show (List.all (backTo pos (starEach es env)) _ && true && _) = true
  rw [this _ (aC2 h3.2 env)]
  exact decide_eq_true (Nat.lt_succ_of_le (Nat.le_of_ble_eq_true h3.1))
 refine ⟨(do return (← importBound o env).getD true), ?_⟩
 show (attributeBase o n env (eval o env) >>= fun ov => standAt ap.atName >>= fun _ => methodCall o n ap pos env ov (es.length + 0) (backTo pos (starEach es env)) (backToKw pos (keywordEach [] env))) = _
 rw [aHx h1.1]
 unfold methodCall
 rw [hf]
 have hp : methodCallPos true o env ap pos = pure pos := by
  unfold methodCallPos
  have : (ap.endLine == pos.line) = true := by rw [Nat.eq_of_beq_eq_true h2.1]; exact beq_self_eq_true _
  rw [this]; rfl
 rw [hp]
 rfl
theorem aA7 {Q : List AV → AH → Prop} (h : Q [] H) : Evs Γ fc d [] ρ H Q := Evs.mk fun A s φ L m pos R hk x =>
 wpAny_items_nil ⟨[], H, φ, h, .nil, Go.refl, x.st⟩
theorem aAi {e : Expr} {es : List Expr} {Q : List AV → AH → Prop} (h : Ev Γ fc d e ρ H (KEvs Γ fc d es ρ Q))
  (he : nst e = true := by exact (rfl : true = true)) : Evs Γ fc d (e :: es) ρ H Q := Evs.mk fun A s φ L m pos R hk x => by
 refine wpAny_items_cons (aAa (α := Unit) (E := noE) h R hk x fun v H' φ' y s' q r g x' => ?_) (aJ4 es _ he)
 refine aAf (q.go A s' φ' L m pos R hk x') fun ys s'' zz0 => ?_
 obtain ⟨vs, H'', φ'', q2, r2, g2, S2⟩ := zz0
 exact ⟨v :: vs, H'', φ'', q2, .cons (r.go x'.st g2) r2, g.trans g2, S2⟩
theorem aBg {φ : Mp} {h : Heap} (S : St Γ.w Γ.h₀ φ H h) {i : Id} {b : Bool} {a : Addr} (e : φ i b = some a) : a < h.objs.size := let ⟨_, e', _⟩ := S.there _ _ _ e; Heap.lt_size e'
theorem aIz {h : Heap} {o : Obj} {a : Addr} (e : (h.push o).get? a = none) : h.get? a = none := by
 cases q : h.get? a with
 | none => rfl
 | some o' => rwa [Heap.get?_push_of_some o q] at e
theorem aEn {h h' : Heap} (hk : ∀ b o, h.get? b = some o → h'.get? b = some o) {a : Addr} (e : h'.get? a = none) : h.get? a = none := by
 cases q : h.get? a with
 | none => rfl
 | some o => rwa [hk _ _ q] at e
theorem aEx {h h' : Heap} {b : Addr} (hs : Heap.SameBut b h h') (hc : ∃ o, h'.get? b = some o) {a : Addr} (e : h'.get? a = none) : h.get? a = none := by
 by_cases q : a = b
 ·subst q; obtain ⟨o, e'⟩ := hc; rwa [e] at e'
 ·rw [← hs.2 a q]; exact e
theorem St.fresh {φ : Mp} {h : Heap} (S : St Γ.w Γ.h₀ φ H h) : Γ.h₀.get? h.objs.size = none := by
 cases q : Γ.h₀.get? h.objs.size with
 | none => rfl
 | some o => exact absurd (Heap.lt_size (S.base _ _ q)) (Nat.lt_irrefl _)
theorem aAs {h : Heap} : h.get? h.objs.size = none := by
 cases q : h.get? h.objs.size with
 | none => rfl
 | some o => exact absurd (Heap.lt_size q) (Nat.lt_irrefl _)
theorem OAt.move {w : World} {φ φ' : Mp} {h h' : Heap} {i : Id} {a : Addr} {o : AO} (x : OAt w φ h i a o) (ha : φ i false = some a) (hφ : ∀ i b a, φ i b = some a → φ' i b = some a)
  (hh : TK h h') (hk : ∀ c b o, φ i c = some b → h.get? b = some o → h'.get? b = some o) : OAt w φ' h' i a o := by
 cases o with
 | lst l => obtain ⟨vs, n, q, r⟩ := x; exact ⟨vs, n, hk _ _ _ ha q, r.mono hφ hh⟩
 | dcs es => obtain ⟨kvs, ⟨o, e, ep, q, z⟩, r⟩ := x; exact ⟨kvs, ⟨o, e, ep, hk _ _ _ ha q, z⟩, r.mono hφ hh⟩
 | dci es ep => obtain ⟨kvs, ⟨o, e, q, z⟩, r⟩ := x; exact ⟨kvs, ⟨o, e, hk _ _ _ ha q, z⟩, r.mono hφ hh⟩
 | ins C fs => obtain ⟨dx, kvs, q, q2, ⟨o, e, ep, q3, z'⟩, r, z⟩ := x; exact ⟨dx, kvs, hk _ _ _ ha q, hφ _ _ _ q2, ⟨o, e, ep, hk _ _ _ q2 q3, z'⟩, r.mono hφ hh, z⟩
 | rng x' y z => obtain ⟨t, u, v, q⟩ := x; exact ⟨t, u, v, hk _ _ _ ha q⟩
 | itm j => obtain ⟨d, q, o, q2, q3, q4⟩ := x; exact ⟨d, hφ _ _ _ q, o, hk _ _ _ ha q2, q3, q4⟩
theorem St.pushed {φ : Mp} {s : Shared} (S : St Γ.w Γ.h₀ φ H s.heap) (o : Obj) {t : Nat} : Go φ s φ { s with heap := s.heap.push o, toks := t } ∧ St Γ.w Γ.h₀ φ H (s.heap.push o) := by
 have g : Go φ s φ { s with heap := s.heap.push o, toks := t } := ⟨⟨_, _, rfl⟩, fun a e => aIz e, fun b o' e _ => Heap.get?_push_of_some o e, fun _ _ _ e => e, fun _ _ _ e => .inl e⟩
 refine ⟨g, fun b o' e => Heap.get?_push_of_some o (S.base b o' e), S.above, fun i b a e => ?_, S.inj, S.free, fun i o' e => ?_⟩
 ·obtain ⟨o', h1, h2⟩ := S.there i b a e
  exact ⟨o', Heap.get?_push_of_some o h1, h2⟩
 ·obtain ⟨a, h1, h2⟩ := S.live i o' e
  exact ⟨a, h1, h2.move h1 (fun _ _ _ e => e) (S.tup g) fun _ _ _ _ e => Heap.get?_push_of_some o e⟩
theorem aPk {es : List Expr} {k : Nat} {p : Pos} {Q : AV → AH → Prop} (h : Evs Γ fc d es ρ H (KTup Q)) : Ev Γ fc d (.Tuple es k p) ρ H Q := Ev.mk fun A s φ L m R hk x => by
 rw [arm_eval_Tuple]
 refine wpAny_bind (wpAny_standAt (wpAny_bind (aAf (h.go A s φ L m p R hk x) fun xs s' zz0 => ?_)))
 obtain ⟨vs, H', φ', ⟨hz, q⟩, r, g, S⟩ := zz0
 have hs : xs.length ≤ sizeLine := by rw [r.length, sizeLine_eq]; have := Nat.le_of_ble_eq_true hz; omega
 refine wpAny_newObj_type ?_ (by show xs.toArray.size ≤ sizeLine; rw [List.size_toArray]; exact hs)
 obtain ⟨g2, S2⟩ := S.pushed (Γ := Γ) (s := s') { cls := .type "tuple", data := .seq xs.toArray } (t := s'.toks)
 exact ⟨.tup vs, H', φ', q, .tup (Heap.get?_push_size _ rfl) (r.go S g2), g.trans g2, S2⟩
theorem St.grow {φ : Mp} {s : Shared} (S : St Γ.w Γ.h₀ φ H s.heap) {h' : Heap} {t : Nat} (hk : ∀ b o, s.heap.get? b = some o → h'.get? b = some o) :
  Go φ s φ { s with heap := h', toks := t } ∧ St Γ.w Γ.h₀ φ H h' := by
 have g : Go φ s φ { s with heap := h', toks := t } := ⟨⟨_, _, rfl⟩, fun a e => aEn hk e, fun b o e _ => hk b o e, fun _ _ _ e => e, fun _ _ _ e => .inl e⟩
 refine ⟨g, fun b o e => hk _ _ (S.base b o e), S.above, fun i b a e => ?_, S.inj, S.free, fun i o' e => ?_⟩
 ·obtain ⟨o', h1, h2⟩ := S.there i b a e
  exact ⟨o', hk _ _ h1, h2⟩
 ·obtain ⟨a, h1, h2⟩ := S.live i o' e
  exact ⟨a, h1, h2.move h1 (fun _ _ _ e => e) (S.tup g) fun _ _ _ _ e => hk _ _ e⟩
noncomputable def put (φ : Mp) (i : Id) (b : Bool) (a : Addr) : Mp := haveI := Id.dec; fun j c => if j = i ∧ c = b then some a else φ j c
theorem aB0 {φ : Mp} {i : Id} {b : Bool} {a : Addr} : put φ i b a i b = some a := if_pos ⟨rfl, rfl⟩
theorem aB5 {φ : Mp} {i : Id} {b : Bool} {a : Addr} (hn : φ i b = none) {j : Id} {c : Bool} {e : Addr} (h : φ j c = some e) : put φ i b a j c = some e := by
 unfold put
 split
 ·rename_i q; obtain ⟨rfl, rfl⟩ := q; rwa [hn] at h
 ·exact h
theorem aB4 {φ : Mp} {i : Id} {b : Bool} {a : Addr} {j : Id} {c : Bool} {e : Addr} (h : put φ i b a j c = some e) : (j = i ∧ c = b ∧ e = a) ∨ φ j c = some e := by
 unfold put at h
 split at h
 ·rename_i q; exact .inl ⟨q.1, q.2, (Option.some.inj h).symm⟩
 ·exact .inr h
theorem St.alloc {φ : Mp} {s : Shared} (S : St Γ.w Γ.h₀ φ H s.heap) {i : Id} (hi : H i = .free) {o : Obj} {t : Nat} (hf : o.isFreed = false) (hc : o.cls ≠ .type "tuple") (ao : AO)
  (h : OAt Γ.w (put φ i false s.heap.objs.size) (s.heap.push o) i s.heap.objs.size ao) :
  Go φ s (put φ i false s.heap.objs.size) { s with heap := s.heap.push o, toks := t } ∧ St Γ.w Γ.h₀ (put φ i false s.heap.objs.size) (upd H i (.live ao)) (s.heap.push o) := by
 have hn : ∀ b, φ i b = none := S.free i hi
 have g0 : Go φ s (put φ i false s.heap.objs.size) { s with heap := s.heap.push o, toks := t } := ⟨⟨_, _, rfl⟩, fun a e => aIz e, fun b o' e _ => Heap.get?_push_of_some o e, fun _ _ _ e => aB5 (hn _) e, fun j b a e => by
  rcases aB4 e with ⟨_, _, rfl⟩ | e
  ·exact .inr aAs
  ·exact .inl e⟩
 refine ⟨g0, fun b o' e => Heap.get?_push_of_some o (S.base b o' e), fun j b a e => ?_, fun j b a e => ?_, fun j b k c a e1 e2 => ?_, fun j hj b => ?_, fun j o' e => ?_⟩
 ·rcases aB4 e with ⟨_, _, rfl⟩ | e
  ·exact S.fresh
  ·exact S.above _ _ _ e
 ·rcases aB4 e with ⟨_, _, rfl⟩ | e
  ·exact ⟨o, Heap.get?_push_size _ hf, hc⟩
  ·obtain ⟨o', h1, h2⟩ := S.there _ _ _ e
   exact ⟨o', Heap.get?_push_of_some o h1, h2⟩
 ·rcases aB4 e1 with ⟨z1, z2, z3⟩ | q1 <;> rcases aB4 e2 with ⟨y1, y2, y3⟩ | q2
  ·exact ⟨z1.trans y1.symm, z2.trans y2.symm⟩
  ·exact absurd (aBg S q2) (by rw [z3]; exact Nat.lt_irrefl _)
  ·exact absurd (aBg S q1) (by rw [y3]; exact Nat.lt_irrefl _)
  ·exact S.inj _ _ _ _ _ q1 q2
 ·unfold upd at hj
  split at hj
  ·cases hj
  ·rename_i n
   have := S.free j hj b
   unfold put
   rw [if_neg fun q => n q.1]; exact this
 ·unfold upd at e
  split at e
  ·rename_i n
   subst n
   cases e
   exact ⟨_, aB0, h⟩
  ·obtain ⟨a, h1, h2⟩ := S.live j o' e
   exact ⟨a, aB5 (hn _) h1, h2.move h1 (fun _ _ _ e => aB5 (hn _) e) (S.tup g0) fun _ _ _ _ e => Heap.get?_push_of_some o e⟩
theorem St.store {φ : Mp} {s : Shared} (S : St Γ.w Γ.h₀ φ H s.heap) {i : Id} {c : Bool} {b : Addr} (hb : φ i c = some b) {h' : Heap} {t : Nat} (hs : Heap.SameBut b s.heap h') {ao ao' : AO} (hi : H i = .live ao)
  (hc : ∃ o, h'.get? b = some o ∧ o.cls ≠ .type "tuple") (h : ∀ a, φ i false = some a → (∀ v y, VR φ s.heap v y → VR φ h' v y) → OAt Γ.w φ h' i a ao') :
  Go φ s φ { s with heap := h', toks := t } ∧ St Γ.w Γ.h₀ φ (upd H i (.live ao')) h' := by
 have ne : ∀ {j e a}, φ j e = some a → ¬ (j = i ∧ e = c) → a ≠ b := fun e1 n e2 => n (by subst e2; exact S.inj _ _ _ _ _ e1 hb)
 have g0 : Go φ s φ { s with heap := h', toks := t } := ⟨⟨_, _, rfl⟩, fun a e => aEx hs (let ⟨o, q, _⟩ := hc; ⟨o, q⟩) e, fun e o q n => (hs.2 e (fun z => n ⟨i, c, z ▸ hb⟩)).trans q, fun _ _ _ e => e, fun _ _ _ e => .inl e⟩
 have tp := S.tup g0
 refine ⟨g0, fun e o q => (hs.2 e ?_).trans (S.base e o q), S.above, fun j e a q => ?_, S.inj, fun j hj e => ?_, fun j o q => ?_⟩
 ·rintro rfl
  rwa [S.above _ _ _ hb] at q
 ·by_cases z : j = i ∧ e = c
  ·obtain ⟨rfl, rfl⟩ := z
   rwa [hb] at q; exact hc
  ·obtain ⟨o, h1, h2⟩ := S.there _ _ _ q
   exact ⟨o, (hs.2 a (ne q z)).trans h1, h2⟩
 ·unfold upd at hj
  split at hj
  ·cases hj
  ·exact S.free j hj e
 ·unfold upd at q
  split at q
  ·rename_i n
   subst n
   cases q
   obtain ⟨a, h1, _⟩ := S.live _ _ hi
   exact ⟨a, h1, h a h1 fun v y r => r.mono (fun _ _ _ e => e) tp⟩
  ·rename_i n
   obtain ⟨a, h1, h2⟩ := S.live j o q
   exact ⟨a, h1, h2.move h1 (fun _ _ _ e => e) tp fun e b' o' e1 e2 => (hs.2 b' (ne e1 fun z => n z.1)).trans e2⟩
end
end
section
open PySem PySem.W PyProof.Rows PySem.Calls
section
variable {Γ : Cx} {fc : FC} {d : Nat} {ρ : Loc} {H : AH}
theorem aBe : Value.type "list" ≠ Value.type "tuple" := by decide
theorem aBd : Value.type "dict" ≠ Value.type "tuple" := by decide
abbrev KList (i : Id) (Q : AV → AH → Prop) : List AV → AH → Prop := fun vs H => Nat.ble vs.length 1000 = true ∧ H i = .free ∧ Q (.ref i) (upd H i (.live (.lst vs)))
theorem aA6 {es : List Expr} {p : Pos} {Q : AV → AH → Prop} (i : Id) (h : Evs Γ fc d es ρ H (KList i Q)) : Ev Γ fc d (.List es p) ρ H Q := Ev.mk fun A s φ L m R hk x => by
 rw [arm_eval_List]
 refine wpAny_bind (wpAny_standAt (wpAny_bind (aAf (h.go A s φ L m p R hk x) fun xs s' zz0 => ?_)))
 refine hZ fun GZ kZ => ?_
 obtain ⟨vs, H', φ', ⟨hz, hi, q⟩, r, g, S⟩ := zz0
 have hs : xs.length ≤ sizeLine := by rw [r.length, sizeLine_eq]; have := Nat.le_of_ble_eq_true hz; omega
 refine kZ ?_
 refine wpAny_newObj_type ?_ (by show xs.toArray.size ≤ sizeLine; rw [List.size_toArray]; exact hs)
 have hn := S.free i hi
 obtain ⟨g2, S2⟩ := S.alloc (Γ := Γ) (s := s') (t := s'.toks) hi (o := { cls := .type "list", data := .seq xs.toArray }) rfl aBe (.lst vs)
  ⟨xs, 0, Heap.get?_push_size _ rfl, r.mono (fun _ _ _ e => aB5 (hn _) e) fun a o n e => Heap.get?_push_of_some _ e⟩
 exact ⟨.ref i, _, _, q, .ref aB0, g.trans g2, S2⟩
noncomputable def calleeOk (P : Params) (v : Value) : Bool := match v with | .ref _ => keepIn (K P) v | _ => true
theorem aOy {M : Model} {P : Params} {v : Value} (h : calleeOk P v = true) (hp : Heap) (X : (K P).In hp) : ∃ k, (k = Keeper.frame ∨ k = Keeper.machine ∨ k = Keeper.boundFrame) ∧ Looks M hp (keeperOf v) k := by
 cases v with
 | ref a => exact keeps_K (K := K P) (f := .ref a) h hp X
 | _ => exact ⟨.machine, .inr (.inl rfl), Looks.of_pure rfl⟩
theorem aIh {M : Model} {A : Around} {E : Value → Shared → Prop} {s : Shared} {f : Value} {args : List (Bool × Sem Value)} {Q : Args → Shared → Prop} (hp : args.all (fun x => !x.1) = true)
  (h : wpAny M A (spliced args) (fun vs s' => Q ⟨vs, []⟩ s') E s) : wpAny M A (evalArgs f true args []) Q E s := by
 cases args with
 | nil =>
  unfold evalArgs
  show wpAny M A (spliced [] >>= _) Q E s
  exact wpAny_bind (wpAny_mono h (fun vs s' h' => wpAny_bind (wpAny_pure (wpAny_holding (wpAny_bind (wpAny_pure (wpAny_bind (wpAny_pure (wpAny_pure h')))))))) fun _ _ x => x)
 | cons a r =>
  obtain ⟨b, t⟩ := a
  simp only [List.all_cons, Bool.and_eq_true] at hp
  have : b = false := by simpa using hp.1
  subst this
  exact evalArgs_plain h
theorem aFq {pos : Pos} {l : List (Bool × Sem Value)} : (backTo pos l).all (fun x => !x.1) = l.all (fun x => !x.1) := by
 unfold backTo
 rw [List.all_map]; rfl
theorem aM7 {pos : Pos} {l : List (Bool × Sem Value)} (h : l.all (fun x => !x.1) = true) : (backTo pos l).any (·.1) = false := by
 have := aFq (pos := pos) (l := l)
 rw [h] at this
 rw [List.any_eq_false]
 intro x hx
 have := List.all_eq_true.mp this x hx
 simpa using this
theorem aBu {f : Value} {first : List Value} {fa : List AV} {es : List Expr} {Q : AV → AH → Prop} {A : Around} {s : Shared} {φ : Mp} {L : Addr} {m : Str → Option Value} {pos : Pos}
  (hf : calleeOk Γ.w.params f = true) (rf : VRs φ s.heap fa first) (R : Room A d) (hk : fc.scope.kind = .function) (x : Here Γ fc φ H ρ L m s.heap)
  (hp : ∀ env, (starEach es env).all (fun x => !x.1) = true) (h : Evs Γ fc d es ρ H (fun vs H' => Cl Γ d f (fa ++ vs) H' Q)) :
  wpAny (model pw Γ.w) A (callWith pos f first (backTo pos (starEach es (fc.env L))) []) (Post Γ φ s Q) noE s := by
 refine callWith_of (P := fun h => (K Γ.w.params).In h) (by rw [aM7 (hp _)]; rfl) (fun h X => aOy hf h X) (aIh (by rw [aFq]; exact hp _) ?_)
 refine aAf (h.go A s φ L m pos R hk x) fun xs s' ⟨vs, H', φ', q, r, g, S⟩ => ⟨S.inK, ?_⟩
 exact aAf (q.go A s' φ' (first ++ xs) R S ((rf.go x.st g).append r)) fun y s'' p => aB7 g p
theorem aJd {f : Expr} {es : List Expr} {pos : Pos} {Q : AV → AH → Prop} (h : Ev Γ fc d f ρ H (fun v H' => ∃ u, v = .glob u ∧ calleeOk Γ.w.params u = true ∧ Evs Γ fc d es ρ H' (fun vs H'' => Cl Γ d u vs H'' Q)))
  (hp : ∀ env, (starEach es env).all (fun x => !x.1) = true := by intro; rfl)
  (he : ∀ env, eval (.Call f es [] pos) env = (do callWith pos (← eval f env) [] (backTo pos (starEach es env)) (backToKw pos (keywordEach [] env))) := by intro; rfl) :
  Ev Γ fc d (.Call f es [] pos) ρ H Q := Ev.mk fun A s φ L m R hk x => by
 rw [he]
 refine wpAny_bind (aAa (α := Unit) (E := noE) h R hk x fun v H' φ' y s' zz0 r g x' => ?_)
 refine hZ fun GZ kZ => ?_
 obtain ⟨u, hu, hc, q⟩ := zz0
 subst hu
 cases r
 refine kZ ?_
 exact aAf (aBu (fa := []) hc .nil R hk x' hp q) fun y s'' p => aB7 g p
theorem aJ8 {kvs : List (Str × Value)} {n : Str} (h : n ∉ kvs.map (·.1)) : valueAt kvs n = none := by
 unfold valueAt
 rw [List.find?_eq_none.mpr]
 ·rfl
 ·intro p hp
  simp only [decide_eq_true_eq]
  rintro rfl
  exact h (List.mem_map.mpr ⟨p, hp, rfl⟩)
noncomputable def AO.type : AO → Option String
 | .lst _ => some "list"
 | .dcs _ => some "dict"
 | .dci _ _ => some "dict"
 | _ => none
theorem aP0 {φ : Mp} {s : Shared} (S : St Γ.w Γ.h₀ φ H s.heap) {i : Id} {o : AO} {T : String} {a : Addr} (hi : H i = .live o) (ha : φ i false = some a) (ht : o.type = some T) : s.TypeIs (.ref a) T ∧ ∃ o, s.heap.get? a = some o ∧ o.dict = none := by
 obtain ⟨a', e', oa⟩ := S.live i _ hi
 rwa [ha] at e'
 cases o with
 | lst l => cases ht; obtain ⟨vs, n, q, r⟩ := oa; exact ⟨⟨_, q, rfl⟩, _, q, rfl⟩
 | dcs es => cases ht; obtain ⟨kvs, ⟨o, e, ep, q, z, _⟩, r⟩ := oa; exact ⟨⟨_, q, z.1⟩, _, q, z.2.1⟩
 | dci es ep => cases ht; obtain ⟨kvs, ⟨o, e, q, z, _⟩, r⟩ := oa; exact ⟨⟨_, q, z.1⟩, _, q, z.2.1⟩
 | _ => cases ht
def PostR (Γ : Cx) (φ : Mp) (s : Shared) (Q : AV → AH → Prop) (r : Result) (s' : Shared) : Prop :=
 match r with | .ok (.ret v) => Post Γ φ s Q v s' | .ok _ => False | .error _ => False
structure Cd (Γ : Cx) (d : Nat) (f : Value) (args : List AV) (H : AH) (Q : AV → AH → Prop) : Prop where
 go : ∀ (A : Around) (s : Shared) (φ : Mp) (xs : List Value), Room A d → St Γ.w Γ.h₀ φ H s.heap → VRs φ s.heap args xs →
  codeAny (model pw Γ.w) A (.call f ⟨xs, []⟩) (PostR Γ φ s Q) s
theorem Cd.cl {f : Value} {args : List AV} {Q : AV → AH → Prop} (h : Cd Γ d f args H Q) : Cl Γ d f args H Q := Cl.mk fun A s φ xs R S r =>
 wpAny_call (codeAny_mono (h.go A s φ xs R S r) fun r s' p => by
  rcases r with e | (v | _ | _ | _) <;> first | exact p.elim | exact p)
theorem aVk {f : Addr} {args : List AV} {Q : AV → AH → Prop} {name qual : Str} {params : Arguments} {body : List Stmt} {scope : Scope} {dV kV doc pm cdv ct oc : Value} {an od : Option Addr} {osl : Array (Option Value)}
  (ho : (K Γ.w.params).lookup f = some ⟨oc, od, .func (fnOf name qual params body scope dV kV doc pm an cdv ct), osl⟩) (hcd : codeIn (K Γ.w.params) cdv qual = true)
  (ρ₀ : Loc) (hb : ∀ (s : Shared) (φ : Mp) (xs : List Value), (K Γ.w.params).In s.heap → VRs φ s.heap args xs → ∃ binds, BindsTo s (fnOf name qual params body scope dV kV doc pm an cdv ct) ⟨xs, []⟩ binds ∧ (∀ y ∈ binds, scope.names.lookup y.1 = some .local) ∧
   ∀ x v, (x, some v) ∈ ρ₀ → ∃ y, binds.reverse.lookup x = some y ∧ VR φ s.heap v y)
  (hnd : (ρ₀.map (·.1)).Nodup) (hloc : ∀ p ∈ ρ₀, scope.names.lookup p.1 = some .local) (hcell : ∀ x ∈ scope.names, x.2 ≠ .cell) (hk : scope.kind = .function) (hco : scope.isCoroutine = false) (hgen : scope.isGenerator = false)
  (h : Exs Γ (fnF qual scope f cdv) d body ρ₀ H (fun fl ρ' H' => match fl with | .ret v => Q v H' | _ => Q .none H')) : Cd Γ (d + 1) (.ref f) args H Q := Cd.mk fun A s φ xs R S r => by
 have X := S.inK
 obtain ⟨binds, hbd, hbl, hbv⟩ := hb s φ xs X r
 refine codeAny_call_def (fd := fnOf name qual params body scope dV kV doc pm an cdv ct) (body := body) (binds := binds) (by have := R.depth; unfold recursionLimit; exact oz301 this) (X _ _ ho) rfl (Γ.lim.keeps S.base) (codeRec_of X hcd) rfl hbd hcell hbl (fun h₁ hns hk₁ => ?_) hco hgen hk
 have R' : Room (A.deeper (callEnv (fnOf name qual params body scope dV kV doc pm an cdv ct) s.heap.objs.size f)) d := ⟨R.handled, by have := R.depth; show A.depth + 1 + 2 * d ≤ 900; exact oz298 this, by have := R.units; show A.units + 3 + 40 * d ≤ 9000; exact oz302 this⟩
 obtain ⟨g, S₁⟩ := S.grow (Γ := Γ) (h' := h₁) (t := s.toks + binds.length) hk₁
 have x : Here Γ (fnF qual scope f cdv) φ H ρ₀ s.heap.objs.size (fun x => binds.reverse.lookup x) h₁ := by
  obtain ⟨oL, _, _, eL, dL, _⟩ := id hns
  refine ⟨hns, fun b ob => ?_, .nil, fun _ _ e => (nomatch e), ⟨hnd, fun p hp => .inl (hloc p hp), fun y v hy => ?_⟩, S₁⟩
  ·rcases ob with rfl | ⟨_, e⟩
   ·refine ⟨S.fresh, ?_, oL, eL, fun vs n e => by rwa [dL] at e⟩
    rintro ⟨i, b, q⟩
    exact absurd (aBg S q) (Nat.lt_irrefl _)
   ·cases e
  ·obtain ⟨z, e1, e2⟩ := hbv y v hy
   exact ⟨z, .inl ⟨hloc _ hy, e1⟩, e2.go S g⟩
 refine wpAny_mono (h.go _ { s with heap := h₁, toks := s.toks + binds.length } φ s.heap.objs.size _ R' hk x) (fun fl s' p => ?_) fun _ _ e => e.elim
 obtain ⟨a, ρ', H', φ', m', q, fv, gl, x'⟩ := p
 have gg : Go φ s φ' s' := by
  obtain ⟨h2, t2, e2⟩ := gl.rest
  subst e2
  refine ⟨⟨_, _, rfl⟩, fun a e => g.al a (gl.al a e), fun b o e n => gl.keep b o (fun ob => by
   rcases ob with q | ⟨_, q⟩
   ·exact absurd (Heap.lt_size e) (by rw [q]; exact Nat.lt_irrefl _)
   ·cases q) (hk₁ b o e) n, gl.ext, fun i b a e => ?_⟩
  rcases gl.new i b a e with q | q
  ·exact .inl q
  ·exact .inr (g.al a q)
 cases fv with
 | ret r => exact ⟨_, H', φ', q, r, gg, x'.st⟩
 | _ => exact ⟨.none, H', φ', q, .none, gg, x'.st⟩
end
end
section
open PySem PySem.W PyProof.Rows PySem.Calls
section
variable {Γ : Cx} {fc : FC} {d : Nat} {ρ : Loc} {H : AH}
theorem aAg {Q : AF → Loc → AH → Prop} (h : Q .next ρ H) : Exs Γ fc d [] ρ H Q := Exs.mk fun A s φ L m R hk x =>
 wpAny_execs_nil ⟨.next, ρ, H, φ, m, h, .next, GoL.refl, x⟩
def After (Γ : Cx) (fc : FC) (d : Nat) (rest : List Stmt) (Q : AF → Loc → AH → Prop) : AF → Loc → AH → Prop
 | .next, ρ, H => Exs Γ fc d rest ρ H Q
 | f, ρ, H => Q f ρ H
theorem aAq {st : Stmt} {rest : List Stmt} {Q : AF → Loc → AH → Prop} (h : Ex Γ fc d st ρ H (After Γ fc d rest Q)) : Exs Γ fc d (st :: rest) ρ H Q := Exs.mk fun A s φ L m R hk x => by
 refine wpAny_execs_cons (aAf (h.go A s φ L m R hk x) fun f s' zz0 => ?_)
 obtain ⟨a, ρ', H', φ', m', q, fv, g, x'⟩ := zz0
 cases fv with
 | next => exact aAf (q.go A s' φ' L m' R hk x') fun f s'' p => aEy g p
 | brk => exact ⟨_, ρ', H', φ', m', q, .brk, g, x'⟩
 | cont => exact ⟨_, ρ', H', φ', m', q, .cont, g, x'⟩
 | ret r => exact ⟨_, ρ', H', φ', m', q, .ret r, g, x'⟩
theorem aNg {e : Expr} {p : Pos} {Q : AF → Loc → AH → Prop} (h : Ev Γ fc d e ρ H (fun v H' => Q (.ret v) ρ H')) : Ex Γ fc d (.Return (some e) p) ρ H Q := Ex.mk fun A s φ L m R hk x =>
 wpAny_Return_some (aAa (α := Unit) (E := noE) h R hk x fun v H' φ' y s' q r g x' => ⟨.ret v, ρ, H', φ', m, q, .ret r, g.toL, x'⟩)
theorem aGf {p : Pos} {Q : AF → Loc → AH → Prop} (h : Q (.ret .none) ρ H) : Ex Γ fc d (.Return none p) ρ H Q := Ex.mk fun A s φ L m R hk x =>
 wpAny_Return_none ⟨.ret .none, ρ, H, φ, m, h, .ret .none, GoL.refl, x⟩
inductive Put (x : Str) (v : AV) : Loc → Loc → Prop
 | here {u : Option AV} {r : Loc} : Put x v ((x, u) :: r) ((x, some v) :: r)
 | there {p : Str × Option AV} {r r' : Loc} : Put x v r r' → Put x v (p :: r) (p :: r')
theorem pt1 {x : Str} {v : AV} {p0 : Str × Option AV} {u : Option AV} {r : Loc} : Put x v (p0 :: (x, u) :: r) (p0 :: (x, some v) :: r) := .there (.here)
theorem pt2 {x : Str} {v : AV} {p0 p1 : Str × Option AV} {u : Option AV} {r : Loc} : Put x v (p0 :: p1 :: (x, u) :: r) (p0 :: p1 :: (x, some v) :: r) := .there (.there (.here))
theorem pt3 {x : Str} {v : AV} {p0 p1 p2 : Str × Option AV} {u : Option AV} {r : Loc} : Put x v (p0 :: p1 :: p2 :: (x, u) :: r) (p0 :: p1 :: p2 :: (x, some v) :: r) := .there (.there (.there (.here)))
theorem pt4 {x : Str} {v : AV} {p0 p1 p2 p3 : Str × Option AV} {u : Option AV} {r : Loc} : Put x v (p0 :: p1 :: p2 :: p3 :: (x, u) :: r) (p0 :: p1 :: p2 :: p3 :: (x, some v) :: r) := .there (.there (.there (.there (.here))))
theorem pt5 {x : Str} {v : AV} {p0 p1 p2 p3 p4 : Str × Option AV} {u : Option AV} {r : Loc} : Put x v (p0 :: p1 :: p2 :: p3 :: p4 :: (x, u) :: r) (p0 :: p1 :: p2 :: p3 :: p4 :: (x, some v) :: r) := .there (.there (.there (.there (.there (.here)))))
theorem pt6 {x : Str} {v : AV} {p0 p1 p2 p3 p4 p5 : Str × Option AV} {u : Option AV} {r : Loc} : Put x v (p0 :: p1 :: p2 :: p3 :: p4 :: p5 :: (x, u) :: r) (p0 :: p1 :: p2 :: p3 :: p4 :: p5 :: (x, some v) :: r) := .there (.there (.there (.there (.there (.there (.here))))))
theorem Put.keys {x : Str} {v : AV} {ρ ρ' : Loc} (p : Put x v ρ ρ') : ρ'.map (·.1) = ρ.map (·.1) := by
 induction p with
 | here => rfl
 | there _ ih => simp [ih]
theorem Put.mem {x : Str} {v : AV} {ρ ρ' : Loc} (p : Put x v ρ ρ') (nd : (ρ.map (·.1)).Nodup) : x ∈ ρ.map (·.1) ∧ ∀ y u, (y, some u) ∈ ρ' → (y = x ∧ u = v) ∨ (y ≠ x ∧ (y, some u) ∈ ρ) := by
 induction p with
 | @here u r =>
  rw [List.map_cons, List.nodup_cons] at nd
  refine ⟨.head _, fun y z hy => ?_⟩
  cases hy with
  | head => exact .inl ⟨rfl, rfl⟩
  | tail _ hy => exact .inr ⟨fun e => nd.1 (e ▸ List.mem_map.mpr ⟨_, hy, rfl⟩), .tail _ hy⟩
 | @there q r r' p ih =>
  rw [List.map_cons, List.nodup_cons] at nd
  obtain ⟨h1, h2⟩ := ih nd.2
  refine ⟨.tail _ h1, fun y z hy => ?_⟩
  cases hy with
  | head => exact .inr ⟨fun e => nd.1 (by show y ∈ _; rw [e]; exact h1), .head _⟩
  | tail _ hy =>
   rcases h2 y z hy with q | q
   ·exact .inl q
   ·exact .inr ⟨q.1, .tail _ q.2⟩
theorem Here.mine {φ : Mp} {L : Addr} {m m' : Str → Option Value} {s : Shared} {ρ' : Loc} (hx : Here Γ fc φ H ρ L m s.heap) {c : Addr} (hc : own fc L c) {h' : Heap} {t : Nat} (hs' : Heap.SameBut c s.heap h') (hns : h'.Ns L m')
  (hal : ∃ o, h'.get? c = some o ∧ ∀ vs n, o.data ≠ .seq vs n) (hlr : TK s.heap h' → LR fc L φ h' ρ' m') : GoL fc L φ s φ { s with heap := h', toks := t } ∧ Here Γ fc φ H ρ' L m' h' := by
 refine hZ fun GZ kZ => ?_
 obtain ⟨h1, h2, oc, h3, h4⟩ := hx.ow c hc
 have nc : ∀ {i b a}, φ i b = some a → a ≠ c := fun e q => h2 ⟨_, _, q ▸ e⟩
 have tp : TK s.heap h' := fun a vs n e => (hs'.2 a fun q => by subst q; rwa [h3] at e; exact h4 _ _ rfl).trans e
 have g : GoL fc L φ s φ { s with heap := h', toks := t } := ⟨⟨_, _, rfl⟩, fun a e => aEx hs' (let ⟨o, e', _⟩ := hal; ⟨o, e'⟩) e, fun b o n e _ => (hs'.2 b fun q => n (q ▸ hc)).trans e, fun _ _ _ e => e, fun _ _ _ e => .inl e⟩
 refine kZ ?_
 refine ⟨g, hns, fun b ob => ?_, hx.ap, hx.nL, hlr tp, ?_⟩
 ·refine hZ fun GZ kZ => ?_
  obtain ⟨k1, k2, o, k3, k4⟩ := hx.ow b ob
  refine kZ ?_
  by_cases q : b = c
  ·subst q; exact ⟨k1, k2, hal⟩
  ·exact ⟨k1, k2, o, (hs'.2 b q).trans k3, k4⟩
 ·have S := hx.st
  refine ⟨fun b o e => (hs'.2 b fun q => by subst q; rwa [h1] at e).trans (S.base b o e), S.above, fun i b a e => ?_, S.inj, S.free, fun i o e => ?_⟩
  ·obtain ⟨o, h1, h2⟩ := S.there i b a e
   exact ⟨o, (hs'.2 a (nc e)).trans h1, h2⟩
  ·obtain ⟨a, h1, h2⟩ := S.live i o e
   exact ⟨a, h1, h2.move h1 (fun _ _ _ e => e) tp fun c b o' e1 e2 => (hs'.2 b (nc e1)).trans e2⟩
theorem aCs {x : Str} {v : AV} {y : Value} {ρ' : Loc} {A : Around} {s : Shared} {φ : Mp} {L : Addr} {m : Str → Option Value} {R : Unit → Shared → Prop} (hk : fc.scope.kind = .function) (hx : Here Γ fc φ H ρ L m s.heap) (hp : Put x v ρ ρ') (r : VR φ s.heap v y)
  (h : ∀ m' s', GoL fc L φ s φ s' → Here Γ fc φ H ρ' L m' s'.heap → R () s') : wpAny (model pw Γ.w) A (storeName (fc.env L) x y) R noE s := by
 refine hZ fun GZ kZ => ?_
 obtain ⟨hx1, hx2⟩ := hp.mem hx.lr.nd
 obtain ⟨p, hp1, hp2⟩ := List.mem_map.mp hx1
 refine kZ ?_
 have keyOf : ∀ q ∈ ρ', ∃ p' ∈ ρ, p'.1 = q.1 := fun q hq => by
  have : q.1 ∈ ρ.map (·.1) := by rw [← hp.keys]; exact List.mem_map.mpr ⟨q, hq, rfl⟩
  obtain ⟨p', h1, h2⟩ := List.mem_map.mp this
  exact ⟨p', h1, h2⟩
 have hloc := hx.lr.loc p hp1
 rw [hp2] at hloc
 rcases hloc with hl | ⟨hl, c, v0, hc, hcell⟩
 ·refine wpAny_storeName_local (env := fc.env L) hl hx.ns (fun h' hn hs => ?_) (by show (fc.scope.kind == .class || (fc.scope.kind == .module && L != mainGlobals)) = false; rw [hk]; rfl)
  have hs' : Heap.SameBut L s.heap h' := hs
  refine hZ fun GZ kZ => ?_
  obtain ⟨oL', _, _, eL', dL', _⟩ := id hn
  have cne : ∀ {n c}, (n, c) ∈ fc.cells L → c ≠ L := fun e => hx.nL _ _ e
  refine kZ ?_
  obtain ⟨g, x'⟩ := hx.mine (t := s.toks + 1) (.inl rfl) hs' hn ⟨oL', eL', fun vs n e => by rwa [dL'] at e⟩ (ρ' := ρ') fun tp => by
   refine ⟨by rw [hp.keys]; exact hx.lr.nd, fun q hq => ?_, fun z u hz => ?_⟩
   ·obtain ⟨p', h1, h2⟩ := keyOf q hq
    rw [← h2]
    rcases hx.lr.loc p' h1 with e | ⟨e, c, v, e1, e2⟩
    ·exact .inl e
    ·exact .inr ⟨e, c, v, e1, e2.sameBut hs' (cne (mem_of_lookup e1))⟩
   ·rcases hx2 z u hz with ⟨rfl, rfl⟩ | ⟨n, q⟩
    ·exact ⟨y, .inl ⟨hl, if_pos rfl⟩, r.mono (fun _ _ _ e => e) tp⟩
    ·obtain ⟨y', e1, e2⟩ := hx.lr.val z u q
     refine ⟨y', ?_, e2.mono (fun _ _ _ e => e) tp⟩
     rcases e1 with ⟨a1, a2⟩ | ⟨a1, c, a2, a3⟩
     ·exact .inl ⟨a1, (if_neg n).trans a2⟩
     ·exact .inr ⟨a1, c, a2, a3.sameBut hs' (cne (mem_of_lookup a2))⟩
  exact h _ _ g x'
 ·refine wpAny_storeName_cell (env := fc.env L) hk hl hc hcell (fun h' hn hs => ?_)
  have hs' : Heap.SameBut c s.heap h' := hs
  obtain ⟨oc, eoc, doc⟩ := id hn
  have hcm := mem_of_lookup hc
  obtain ⟨g, x'⟩ := hx.mine (t := s.toks) (.inr ⟨_, hcm⟩) hs' (hx.ns.sameBut hs' (Ne.symm (hx.nL _ _ hcm))) ⟨oc, eoc, fun vs n e => by rwa [doc] at e⟩ (ρ' := ρ') fun tp => by
   refine ⟨by rw [hp.keys]; exact hx.lr.nd, fun q hq => ?_, fun z u hz => ?_⟩
   ·obtain ⟨p', h1, h2⟩ := keyOf q hq
    rw [← h2]
    rcases hx.lr.loc p' h1 with e | ⟨e, c', v, e1, e2⟩
    ·exact .inl e
    ·by_cases q : c' = c
     ·subst q; exact .inr ⟨e, c', _, e1, hn⟩
     ·exact .inr ⟨e, c', v, e1, e2.sameBut hs' q⟩
   ·rcases hx2 z u hz with ⟨rfl, rfl⟩ | ⟨n, q⟩
    ·exact ⟨y, .inr ⟨hl, c, hc, hn⟩, r.mono (fun _ _ _ e => e) tp⟩
    ·obtain ⟨y', e1, e2⟩ := hx.lr.val z u q
     refine ⟨y', ?_, e2.mono (fun _ _ _ e => e) tp⟩
     rcases e1 with ⟨a1, a2⟩ | ⟨a1, c', a2, a3⟩
     ·exact .inl ⟨a1, a2⟩
     ·refine .inr ⟨a1, c', a2, a3.sameBut hs' fun q => ?_⟩
      subst q
      exact n (name_of_addr hx.ap (mem_of_lookup a2) hcm)
  exact h _ _ g x'
theorem aNf {x : Str} {p1 p : Pos} {e : Expr} {Q : AF → Loc → AH → Prop} (h : Ev Γ fc d e ρ H (fun v H' => ∃ ρ', Put x v ρ ρ' ∧ Q .next ρ' H'))
  (hs : ∀ env, swapsWith e (some (.Name x p1)) p.line env = pure false := by intro; rfl) : Ex Γ fc d (.Assign [.Name x p1] e p) ρ H Q := Ex.mk fun A s φ L m R hk y =>
 wpAny_Assign_Name (aAa (α := Unit) (E := noE) h R hk y fun v H' φ' z s' zz0 r g x' => by obtain ⟨ρ', hp, q⟩ := zz0; exact aCs hk x' hp r fun m' s'' g' x'' => ⟨.next, ρ', H', φ', m', q, .next, g.toL.trans g', x''⟩) (hs _)
theorem aDq {e : Expr} {Q : Bool → AH → Prop} {A : Around} {s : Shared} {φ : Mp} {L : Addr} {m : Str → Option Value} {R : Bool → Shared → Prop}
  (h : Tv Γ fc d e ρ H Q) (rm : Room A d) (hk : fc.scope.kind = .function) (x : Here Γ fc φ H ρ L m s.heap)
  (k : ∀ b H' φ' s', Q b H' → Go φ s φ' s' → Here Γ fc φ' H' ρ L m s'.heap → R b s') : wpAny (model pw Γ.w) A (isTrue e (fc.env L) (eval e (fc.env L))) R noE s :=
 aAf (h.go A s φ L m rm hk x) fun b s' zz0 => by obtain ⟨H', φ', q, g, S⟩ := zz0; exact k b H' φ' s' q g (x.go g S)
theorem aZi {t : Expr} {b o : List Stmt} {p : Pos} {Q : AF → Loc → AH → Prop} (h : Tv Γ fc d t ρ H (fun v H' => (v = true → Exs Γ fc d b ρ H' Q) ∧ (v = false → Exs Γ fc d o ρ H' Q))) : Ex Γ fc d (.If t b o p) ρ H Q := Ex.mk fun A s φ L m R hk y =>
 wpAny_If (aDq h R hk y fun v H' φ' s' q g x' => by
  cases v with
  | true => exact aAf ((q.1 rfl).go A s' φ' L m R hk x') fun f s'' p => aEy g.toL p
  | false => exact aAf ((q.2 rfl).go A s' φ' L m R hk x') fun f s'' p => aEy g.toL p)
theorem Tv.mono {e : Expr} {Q Q' : Bool → AH → Prop} (h : Tv Γ fc d e ρ H Q) (k : ∀ v H', Q v H' → Q' v H') : Tv Γ fc d e ρ H Q' := Tv.mk fun A s φ L m R hk x =>
 aAf (h.go A s φ L m R hk x) fun _ _ zz0 => by obtain ⟨H', φ', q, r⟩ := zz0; exact ⟨H', φ', k _ _ q, r⟩
end
end
section
section
variable {Γ : Cx} {fc : FC} {d : Nat} {ρ : Loc} {H : AH}
def Truth (H : AH) : AV → Bool → Prop
 | .bool b, c => c = b
 | .none, c => c = false
 | .ref i, c => ∃ l, H i = .live (.lst l) ∧ l.length ≤ 100000 ∧ c = !l.isEmpty
 | _, _ => False
theorem aLn {v : AV} {y : Value} {b : Bool} {A : Around} {s : Shared} {φ : Mp} {R : Bool → Shared → Prop} (S : St Γ.w Γ.h₀ φ H s.heap) (r : VR φ s.heap v y) (t : Truth H v b) (h : ∀ s', Go φ s φ s' → St Γ.w Γ.h₀ φ H s'.heap → R b s') :
  wpAny (model pw Γ.w) A (truthy y) R noE s := by
 cases r with
 | bool c => cases t; exact wpAny_truthy_bool (h _ Go.refl S)
 | none => cases t; exact wpAny_pure (h _ Go.refl S)
 | ref ha =>
  refine hZ fun GZ kZ => ?_
  obtain ⟨l, hi, hz, rfl⟩ := t
  obtain ⟨a', e', vs, n, q, r⟩ := S.live _ _ hi
  rwa [ha] at e'
  refine kZ ?_
  refine wpAny_truthy_list (items := vs.toArray) ⟨_, q, rfl, n, rfl⟩ (by rw [List.size_toArray, r.length]; exact zi [l.length] [] (.h 1 (.u 0) (.n 100000) .e) (.a (.u 0) (.n 1)) (.n (2^63)) rfl (zcl hz)) ?_
  have : (!vs.toArray.isEmpty) = !l.isEmpty := by cases r <;> simp
  rw [this]
  exact h _ Go.tok S
 | _ => exact t.elim
theorem aQ3 {e : Expr} {Q : Bool → AH → Prop} (h : Ev Γ fc d e ρ H (fun v H' => ∃ b, Truth H' v b ∧ Q b H')) (he : ∀ env whole, isTrue e env whole = (do let v ← whole; standAt e.pos; holding [v] (truthy v)) := by intro _ _; rfl) : Tv Γ fc d e ρ H Q := Tv.mk fun A s φ L m R hk x => by
 rw [he]
 refine wpAny_bind (aAa (α := Unit) (E := noE) h R hk x fun v H' φ' y s' zz0 r g x' => by obtain ⟨b, t, q⟩ := zz0; exact wpAny_bind (wpAny_standAt (wpAny_holding (aLn x'.st r t fun s'' g2 S2 => ⟨H', φ', q, g.trans g2, S2⟩))))
abbrev KTnot (Q : Bool → AH → Prop) : Bool → AH → Prop := fun b H => Q (!b) H
theorem aWb {e : Expr} {p : Pos} {Q : Bool → AH → Prop} (h : Tv Γ fc d e ρ H (KTnot Q)) : Tv Γ fc d (.UnaryOp .Not e p) ρ H Q := Tv.mk fun A s φ L m R hk x =>
 wpAny_isTrue_Not (aDq h R hk x fun b H' φ' s' q g x' => ⟨H', φ', q, g, x'.st⟩)
structure Tvs (Γ : Cx) (fc : FC) (d : Nat) (op : BoolOp) (es : List Expr) (ρ : Loc) (H : AH) (Q : Bool → AH → Prop) : Prop where
 go : ∀ (A : Around) (s : Shared) (φ : Mp) (L : Addr) (m : Str → Option Value), Room A d → fc.scope.kind = .function → Here Γ fc φ H ρ L m s.heap →
  wpAny (model pw Γ.w) A (allTrue op es (fc.env L)) (fun b s' => ∃ H' φ', Q b H' ∧ Go φ s φ' s' ∧ St Γ.w Γ.h₀ φ' H' s'.heap) noE s
theorem aNu {op : BoolOp} {es : List Expr} {p : Pos} {Q : Bool → AH → Prop} (h : Tvs Γ fc d op es ρ H Q) : Tv Γ fc d (.BoolOp op es p) ρ H Q := Tv.mk fun A s φ L m R hk x =>
 wpAny_isTrue_BoolOp (h.go A s φ L m R hk x)
abbrev KTvA (Γ : Cx) (fc : FC) (d : Nat) (es : List Expr) (ρ : Loc) (Q : Bool → AH → Prop) : Bool → AH → Prop := fun b H => (b = true → Tvs Γ fc d .And es ρ H Q) ∧ (b = false → Q false H)
abbrev KTvO (Γ : Cx) (fc : FC) (d : Nat) (es : List Expr) (ρ : Loc) (Q : Bool → AH → Prop) : Bool → AH → Prop := fun b H => (b = false → Tvs Γ fc d .Or es ρ H Q) ∧ (b = true → Q true H)
theorem aJk {Q : Bool → AH → Prop} (h : Q true H) : Tvs Γ fc d .And [] ρ H Q := Tvs.mk fun A s φ L m R hk x => wpAny_allTrue_And_nil ⟨H, φ, h, Go.refl, x.st⟩
theorem aM6 {Q : Bool → AH → Prop} (h : Q false H) : Tvs Γ fc d .Or [] ρ H Q := Tvs.mk fun A s φ L m R hk x => wpAny_allTrue_Or_nil ⟨H, φ, h, Go.refl, x.st⟩
theorem aU3 {e : Expr} {es : List Expr} {Q : Bool → AH → Prop} (h : Tv Γ fc d e ρ H (KTvA Γ fc d es ρ Q)) : Tvs Γ fc d .And (e :: es) ρ H Q := Tvs.mk fun A s φ L m R hk x =>
 wpAny_allTrue_And_cons (aDq h R hk x fun b H' φ' s' q g x' => by
  cases b with
  | true => exact aAf ((q.1 rfl).go A s' φ' L m R hk x') fun b s'' ⟨H'', φ'', q2, g2, S2⟩ => ⟨H'', φ'', q2, g.trans g2, S2⟩
  | false => exact ⟨H', φ', q.2 rfl, g, x'.st⟩)
theorem aT4 {e : Expr} {es : List Expr} {Q : Bool → AH → Prop} (h : Tv Γ fc d e ρ H (KTvO Γ fc d es ρ Q)) : Tvs Γ fc d .Or (e :: es) ρ H Q := Tvs.mk fun A s φ L m R hk x =>
 wpAny_allTrue_Or_cons (aDq h R hk x fun b H' φ' s' q g x' => by
  cases b with
  | false => exact aAf ((q.1 rfl).go A s' φ' L m R hk x') fun b s'' ⟨H'', φ'', q2, g2, S2⟩ => ⟨H'', φ'', q2, g.trans g2, S2⟩
  | true => exact ⟨H', φ', q.2 rfl, g, x'.st⟩)
structure Cm (Γ : Cx) (d : Nat) (op : CmpOp) (v u : AV) (H : AH) (b : Bool) : Prop where
 go : ∀ (A : Around) (s : Shared) (φ : Mp) (x y : Value) (R : Value → Shared → Prop), Room A d → St Γ.w Γ.h₀ φ H s.heap → VR φ s.heap v x → VR φ s.heap u y → (∀ s', Go φ s φ s' → St Γ.w Γ.h₀ φ H s'.heap → R (.bool b) s') →
  wpAny (model pw Γ.w) A (compareOp op x y) R noE s
theorem aVy {l r : Expr} {op : CmpOp} {p : Pos} {Q : AV → AH → Prop} (h : Ev Γ fc d l ρ H (fun v H' => Ev Γ fc d r ρ H' (fun u H'' => ∃ b, Cm Γ d op v u H'' b ∧ Q (.bool b) H'')))
  (hm : behindInMarks op r = false := by rfl) : Ev Γ fc d (.Compare l [op] [r] p) ρ H Q := Ev.mk fun A s φ L m R hk x => by
 refine wpAny_Compare1 (aAa (α := Unit) (E := noE) h R hk x fun v H' φ' y s' q r1 g x' => ?_) hm
 refine aAa (α := Unit) (E := noE) q R hk x' fun u H'' φ'' z s'' zz0 r2 g2 x'' => ?_
 obtain ⟨b, c, q2⟩ := zz0
 exact c.go A s'' φ'' y z _ R x''.st (r1.go x'.st g2) r2 fun s3 g3 S3 => ⟨.bool b, H'', φ'', q2, .bool b, (g.trans g2).trans g3, S3⟩
theorem aW9 {l r : Expr} {op : CmpOp} {p : Pos} {Q : Bool → AH → Prop} (h : Ev Γ fc d l ρ H (fun v H' => Ev Γ fc d r ρ H' (fun u H'' => ∃ b, Cm Γ d op v u H'' b ∧ Q b H'')))
  (hm : behindInMarks op r = false := by rfl) : Tv Γ fc d (.Compare l [op] [r] p) ρ H Q := Tv.mk fun A s φ L m R hk x => by
 refine wpAny_isTrue_Compare1 (aAa (α := Unit) (E := noE) h R hk x fun v H' φ' y s' q r1 g x' => ?_) hm
 refine aAa (α := Unit) (E := noE) q R hk x' fun u H'' φ'' z s'' zz0 r2 g2 x'' => ?_
 obtain ⟨b, c, q2⟩ := zz0
 exact c.go A s'' φ'' y z _ R x''.st (r1.go x'.st g2) r2 fun s3 g3 S3 => wpAny_truthy_bool ⟨H'', φ'', q2, (g.trans g2).trans g3, S3⟩
theorem aFk {v : AV} : Cm Γ d .Is v .none H (match v with | .none => true | .glob u => u == .none | _ => false) := Cm.mk fun A s φ x y R rm S r1 r2 h => by
 cases r2
 refine is_none ?_
 have := h s Go.refl S
 cases r1 <;> exact this
theorem aGc {v : AV} : Cm Γ d .IsNot v .none H (match v with | .none => false | .glob u => !(u == .none) | _ => true) := Cm.mk fun A s φ x y R rm S r1 r2 h => by
 cases r2
 refine isNot_none ?_
 have := h s Go.refl S
 cases r1 <;> exact this
theorem aP8 {x y : Str} : (x.cps.toList == y.cps.toList) = decide (x = y) := by
 by_cases h : x = y
 ·subst h; simp
 ·rw [decide_eq_false h]
  rw [beq_eq_false_iff_ne]
  intro e
  apply h
  cases x; cases y
  simp only [Str.mk.injEq]
  exact Array.toList_inj.mp e
theorem aN1 {x y : Str} : Cm Γ d .Eq (.str x) (.str y) H (decide (x = y)) := Cm.mk fun A s φ a b R rm S r1 r2 h => by
 cases r1; cases r2
 exact P.eq_str (by rw [aP8]; exact h s Go.refl S)
theorem aN8 {x y : Str} : Cm Γ d .NotEq (.str x) (.str y) H (!decide (x = y)) := Cm.mk fun A s φ a b R rm S r1 r2 h => by
 cases r1; cases r2
 exact P.ne_str (by unfold bne; rw [aP8]; exact h s Go.refl S)
section
variable {a b : Int}
theorem aN0 : Cm Γ d .Eq (.int a) (.int b) H (decide (a = b)) := Cm.mk fun A s φ x y R rm S r1 r2 h => by
 cases r1; cases r2
 exact P.eq_int (by
  have : (a == b) = decide (a = b) := by by_cases q : a = b <;> simp [q]
  rw [this]; exact h s Go.refl S)
theorem aN7 : Cm Γ d .NotEq (.int a) (.int b) H (!decide (a = b)) := Cm.mk fun A s φ x y R rm S r1 r2 h => by
 cases r1; cases r2
 exact P.ne_int (by
  have : (a != b) = !decide (a = b) := by by_cases q : a = b <;> simp [q]
  rw [this]; exact h s Go.refl S)
theorem aN6 : Cm Γ d .Lt (.int a) (.int b) H (decide (a < b)) := Cm.mk fun A s φ x y R rm S r1 r2 h => by
 cases r1; cases r2; exact P.lt_int (h s Go.refl S)
theorem aN3 : Cm Γ d .Gt (.int a) (.int b) H (decide (b < a)) := Cm.mk fun A s φ x y R rm S r1 r2 h => by
 cases r1; cases r2; exact P.gt_int (h s Go.refl S)
theorem aN2 : Cm Γ d .GtE (.int a) (.int b) H (decide (b ≤ a)) := Cm.mk fun A s φ x y R rm S r1 r2 h => by
 cases r1; cases r2; exact P.ge_int (h s Go.refl S)
end
theorem aM0 {a b : Bool} : Cm Γ d .NotEq (.bool a) (.bool b) H (a != b) := Cm.mk fun A s φ x y R rm S r1 r2 h => by
 cases r1; cases r2; exact ne_bool (h s Go.refl S)
noncomputable def isStr (x : Str) : AV → Bool := fun v => @AV.casesOn (fun _ => Bool) v false (fun _ => false) (fun _ => false) (fun y => decide (y = x)) (fun _ => false) (fun _ => false) (fun _ => false)
noncomputable def isInt (x : Int) : AV → Bool := fun v => @AV.casesOn (fun _ => Bool) v false (fun _ => false) (fun y => decide (y = x)) (fun _ => false) (fun _ => false) (fun _ => false) (fun _ => false)
noncomputable def allStr (l : List AV) : Bool := l.all fun v => match v with | .str _ => true | _ => false
noncomputable def allInt (l : List AV) : Bool := l.all fun v => match v with | .int _ => true | _ => false
noncomputable def vStr (x : Str) : Value → Bool
 | .str y _ => decide (y = x)
 | _ => false
noncomputable def vInt (x : Int) : Value → Bool
 | .int y _ => decide (y = x)
 | _ => false
theorem aNw {φ : Mp} {h : Heap} {l : List AV} {xs : List Value} (r : VRs φ h l xs) (x : Str) : xs.any (vStr x) = l.any (isStr x) ∨ allStr l = false := by
 induction l generalizing xs with
 | nil => cases r; exact .inl rfl
 | cons v l ih =>
  cases r with
  | cons a r =>
   cases a <;> first | exact .inr rfl | skip
   rcases ih r with e | e
   ·exact .inl (by simp only [List.any_cons, e]; rfl)
   ·exact .inr (by simp only [allStr, List.all_cons] at e ⊢; rw [e]; rfl)
theorem aNv {φ : Mp} {h : Heap} {l : List AV} {xs : List Value} (r : VRs φ h l xs) (x : Int) : xs.any (vInt x) = l.any (isInt x) ∨ allInt l = false := by
 induction l generalizing xs with
 | nil => cases r; exact .inl rfl
 | cons v l ih =>
  cases r with
  | cons a r =>
   cases a <;> first | exact .inr rfl | skip
   rcases ih r with e | e
   ·exact .inl (by simp only [List.any_cons, e]; rfl)
   ·exact .inr (by simp only [allInt, List.all_cons] at e ⊢; rw [e]; rfl)
theorem VRs.mem {φ : Mp} {h : Heap} {l : List AV} {xs : List Value} (r : VRs φ h l xs) {y : Value} (hy : y ∈ xs) : ∃ v ∈ l, VR φ h v y := by
 induction l generalizing xs with
 | nil => cases r; cases hy
 | cons v l ih =>
  cases r with
  | cons a r =>
   cases hy with
   | head => exact ⟨v, .head _, a⟩
   | tail _ hy => obtain ⟨u, h1, h2⟩ := ih r hy; exact ⟨u, .tail _ h1, h2⟩
theorem aL5 {A : Around} {s : Shared} {φ : Mp} {l : List AV} {xs : List Value} (r : VRs φ s.heap l xs) (ha : allStr l = true) (x : Str) (t : Tok) : ∀ y, y ∈ xs.toArray → EqAt A s y (.str x t) (vStr x y) := fun y hy => by
 obtain ⟨v, h1, h2⟩ := r.mem (by simpa using hy)
 have := List.all_eq_true.mp ha v h1
 cases h2 <;> first | cases this | skip
 intro prog w E Q hq
 exact wpAny_eqBool_str hq
theorem aGy {A : Around} {s : Shared} {φ : Mp} {l : List AV} {xs : List Value} (r : VRs φ s.heap l xs) (ha : allInt l = true) (x : Int) (t : Tok) : ∀ y, y ∈ xs.toArray → EqAt A s y (.int x t) (vInt x y) := fun y hy => by
 obtain ⟨v, h1, h2⟩ := r.mem (by simpa using hy)
 have := List.all_eq_true.mp ha v h1
 cases h2 <;> first | cases this | skip
 rename_i i u
 intro prog w E Q hq
 have e : (i == x) = vInt x (.int i u) := by show (i == x) = decide (i = x); by_cases q : i = x <;> simp [q]
 exact wpAny_eqBool_int (by rw [e]; exact hq)
theorem aE9 {x : Str} {l : List AV} (ha : allStr l = true) : Cm Γ d .In (.str x) (.tup l) H (l.any (isStr x)) := Cm.mk fun A s φ a b R rm S r1 r2 h => by
 cases r1 with
 | str _ t =>
  cases r2 with
  | tup e r =>
   refine in_tupleAt (items := (List.toArray _)) _ ⟨_, e, rfl, _, rfl⟩ (aL5 r ha x t) ?_
   rcases aNw r x with q | q
   ·rw [← Array.any_toList, List.toList_toArray, q]; exact h s Go.refl S
   ·rwa [ha] at q
theorem aDr {x : Str} {l : List AV} (ha : allStr l = true) : Cm Γ d .NotIn (.str x) (.tup l) H (!l.any (isStr x)) := Cm.mk fun A s φ a b R rm S r1 r2 h => by
 cases r1 with
 | str _ t =>
  cases r2 with
  | tup e r =>
   refine notIn_tupleAt (items := (List.toArray _)) _ ⟨_, e, rfl, _, rfl⟩ (aL5 r ha x t) ?_
   rcases aNw r x with q | q
   ·rw [← Array.any_toList, List.toList_toArray, q]; exact h s Go.refl S
   ·rwa [ha] at q
theorem aN5 {x : Int} {i : Id} {l : List AV} (hi : H i = .live (.lst l)) (ha : allInt l = true) : Cm Γ d .In (.int x) (.ref i) H (l.any (isInt x)) := Cm.mk fun A s φ a b R rm S r1 r2 h => by
 cases r1 with
 | int _ t =>
  cases r2 with
  | ref e =>
   refine hZ fun GZ kZ => ?_
   obtain ⟨a', e', vs, n, q, r⟩ := S.live _ _ hi
   rwa [e] at e'
   refine kZ ?_
   refine in_listAt (items := vs.toArray) _ ⟨_, q, rfl, _, rfl⟩ (aGy r ha x t) ?_
   rcases aNv r x with q | q
   ·rw [← Array.any_toList, List.toList_toArray, q]; exact h s Go.refl S
   ·rwa [ha] at q
theorem aHt {x : Int} {i : Id} {l : List AV} (hi : H i = .live (.lst l)) (ha : allInt l = true) : Cm Γ d .NotIn (.int x) (.ref i) H (!l.any (isInt x)) := Cm.mk fun A s φ a b R rm S r1 r2 h => by
 cases r1 with
 | int _ t =>
  cases r2 with
  | ref e =>
   refine hZ fun GZ kZ => ?_
   obtain ⟨a', e', vs, n, q, r⟩ := S.live _ _ hi
   rwa [e] at e'
   refine kZ ?_
   refine notIn_listAt (items := vs.toArray) _ ⟨_, q, rfl, _, rfl⟩ (aGy r ha x t) ?_
   rcases aNv r x with q | q
   ·rw [← Array.any_toList, List.toList_toArray, q]; exact h s Go.refl S
   ·rwa [ha] at q
theorem ES.at_none {φ : Mp} {h : Heap} {T : Type} [DecidableEq T] {es : List (T × AV)} {xs : List (T × Value)} (r : ES φ h es xs) {k : T} : (valueAt xs k).isSome = es.any (fun p => decide (p.1 = k)) := by
 induction r with
 | nil => rfl
 | @cons k' v' x' es xs a r ih =>
  by_cases q : k' = k
  ·simp [valueAt, q]
  ·simp only [valueAt, List.find?_cons, List.any_cons, decide_eq_false q, Bool.false_or] at ih ⊢
   exact ih
theorem sysM {φ : Mp} {h : Heap} (S : St Γ.w Γ.h₀ φ H h) {i : Id} {b : Bool} {a : Addr} (e : φ i b = some a) : (a == sysModules) = false := by
 have h1 := S.above _ _ _ e
 rw [beq_eq_false_iff_ne]
 rintro rfl
 obtain ⟨o, q⟩ := Γ.mods
 rwa [q] at h1
theorem aN4 {x : Int} {i : Id} {es : List (Int × AV)} {ep : Nat} (hi : H i = .live (.dci es ep)) : Cm Γ d .In (.int x) (.ref i) H (es.any fun p => decide (p.1 = x)) := Cm.mk fun A s φ a b R rm S r1 r2 h => by
 cases r1 with
 | int _ t =>
  cases r2 with
  | ref e =>
   obtain ⟨a', e', kvs, D, r⟩ := S.live _ _ hi
   rwa [e] at e'
   refine wpAny_in_of (intKind_is _ _ x t) (sysM S e) D.dictOf.mapOf ?_
   rw [r.at_none]; exact h _ Go.tok S
theorem aHs {x : Str} {i : Id} {es : List (Str × AV)} (hi : H i = .live (.dcs es)) : Cm Γ d .NotIn (.str x) (.ref i) H (!es.any fun p => decide (p.1 = x)) := Cm.mk fun A s φ a b R rm S r1 r2 h => by
 cases r1 with
 | str _ t =>
  cases r2 with
  | ref e =>
   obtain ⟨a', e', kvs, D, r⟩ := S.live _ _ hi
   rwa [e] at e'
   refine wpAny_notIn_of (strKind_is _ _ x t) (sysM S e) D.mapOf ?_
   rw [r.at_none]; exact h _ Go.tok S
end
end
section
section
variable {Γ : Cx} {fc : FC} {d : Nat} {ρ : Loc} {H : AH}
structure Bi (Γ : Cx) (d : Nat) (op : Operator) (v u : AV) (H : AH) (Q : AV → AH → Prop) : Prop where
 go : ∀ (A : Around) (s : Shared) (φ : Mp) (x y : Value), Room A d → St Γ.w Γ.h₀ φ H s.heap → VR φ s.heap v x → VR φ s.heap u y →
  wpAny (model pw Γ.w) A (binaryOp op x y) (Post Γ φ s Q) noE s
abbrev KBin2 (Γ : Cx) (d : Nat) (op : Operator) (v : AV) (Q : AV → AH → Prop) : AV → AH → Prop := fun u H => Bi Γ d op v u H Q
abbrev KBin (Γ : Cx) (fc : FC) (d : Nat) (op : Operator) (r : Expr) (ρ : Loc) (Q : AV → AH → Prop) : AV → AH → Prop := fun v H => Ev Γ fc d r ρ H (KBin2 Γ d op v Q)
abbrev KIfe (Γ : Cx) (fc : FC) (d : Nat) (a b : Expr) (ρ : Loc) (Q : AV → AH → Prop) : Bool → AH → Prop := fun v H => (v = true → Ev Γ fc d a ρ H Q) ∧ (v = false → Ev Γ fc d b ρ H Q)
theorem aVv {l r : Expr} {op : Operator} {p : Pos} {Q : AV → AH → Prop} (h : Ev Γ fc d l ρ H (KBin Γ fc d op r ρ Q)) : Ev Γ fc d (.BinOp l op r p) ρ H Q := Ev.mk fun A s φ L m R hk x =>
 wpAny_BinOp (aAa (α := Unit) (E := noE) h R hk x fun v H' φ' y s' q r1 g x' =>
  aAa (α := Unit) (E := noE) q R hk x' fun u H'' φ'' z s'' c r2 g2 x'' =>
   aAf (c.go A s'' φ'' y z R x''.st (r1.go x'.st g2) r2) fun _ _ pq => aB7 (g.trans g2) pq)
theorem aVf {a b : Int} {Q : AV → AH → Prop} (h : Q (.int (a + b)) H) : Bi Γ d .Add (.int a) (.int b) H Q := Bi.mk fun A s φ x y R S r1 r2 => by
 cases r1; cases r2; exact PySem.P.add_int (aAe h (.int _ _) S)
theorem aVi {a b : Int} {Q : AV → AH → Prop} (h : Q (.int (a - b)) H) : Bi Γ d .Sub (.int a) (.int b) H Q := Bi.mk fun A s φ x y R S r1 r2 => by
 cases r1; cases r2; exact PySem.P.sub_int (aAe h (.int _ _) S)
theorem aVh {a b : Int} {Q : AV → AH → Prop} (hb : -(2 ^ 64) < b ∧ b < 2 ^ 64) (h : Q (.int (a * b)) H) : Bi Γ d .Mult (.int a) (.int b) H Q := Bi.mk fun A s φ x y R S r1 r2 => by
 cases r1; cases r2; exact PySem.P.mul_int (aAe h (.int _ _) S) (IntMulOk.of_right (intBits_le_64 hb.1 hb.2))
theorem aJ3 {a b : Int} (hb : b.natAbs < 1000) : Builtin.divisionGoesByPylong a b = false := by
 unfold Builtin.divisionGoesByPylong
 have : b.natAbs.log2 < 10 ∨ b = 0 := by
  rcases Nat.eq_zero_or_pos b.natAbs with h0 | hp
  ·exact .inr (Int.natAbs_eq_zero.mp h0)
  ·exact .inl ((Nat.log2_lt (Nat.ne_of_gt hp)).mpr (by exact zn [(Int.natAbs b)] (.h 1 (.a (.v 0) (.n 1)) (.n 1000) .e) (.a (.v 0) (.n 1)) (.n (2^10)) rfl hb))
 dsimp only
 split
 ·simp
 ·rcases this with q | q
  ·have : ¬ (b.natAbs.log2 / 30 + 1 > 300) := by exact oz310 q
   simp [this]
  ·simp_all
theorem aSy {a b : Int} {Q : AV → AH → Prop} (h0 : b ≠ 0) (hb : b.natAbs < 1000) (h : Q (.int (a.fdiv b)) H) : Bi Γ d .FloorDiv (.int a) (.int b) H Q := Bi.mk fun A s φ x y R S r1 r2 => by
 cases r1; cases r2; exact PyProof.Rows.floordiv_int h0 (aAe h (.int _ _) S) (.inl (aJ3 hb))
theorem aVg {a b : Int} {Q : AV → AH → Prop} (h0 : b ≠ 0) (h : Q (.int (a.fmod b)) H) : Bi Γ d .Mod (.int a) (.int b) H Q := Bi.mk fun A s φ x y R S r1 r2 => by
 cases r1; cases r2; exact PyProof.Rows.mod_int' h0 (aAe h (.int _ _) S)
theorem aT0 {a b : Str} {Q : AV → AH → Prop} (hz : a.length + b.length ≤ 1000000) (h : Q (.str (a ++ b)) H) : Bi Γ d .Add (.str a) (.str b) H Q := Bi.mk fun A s φ x y R S r1 r2 => by
 cases r1; cases r2; exact PyProof.Rows.add_str (fun t' tk => aAe h (.str _ _) S) (by rw [sizeLine_eq]; omega)
theorem aSz {i j : Id} {a b : List AV} {Q : AV → AH → Prop} (k : Id) (hi : H i = .live (.lst a)) (hj : H j = .live (.lst b)) (hk : H k = .free) (hz : a.length + b.length ≤ 1000000) (h : Q (.ref k) (upd H k (.live (.lst (a ++ b))))) :
  Bi Γ d .Add (.ref i) (.ref j) H Q := Bi.mk fun A s φ x y R S r1 r2 => by
 cases r1; cases r2; rename_i c1 e1 c2 e2
 refine hZ fun GZ kZ => ?_
 obtain ⟨a1, f1, vs, n, q1, w1⟩ := S.live _ _ hi
 obtain ⟨a2, f2, us, n2, q2, w2⟩ := S.live _ _ hj
 rwa [e1] at f1
 rwa [e2] at f2
 refine kZ ?_
 refine PySem.P.add_list q1 q2 ?_ (by rw [List.size_toArray, List.size_toArray, w1.length, w2.length, sizeLine_eq]; omega)
 have hn := S.free k hk
 obtain ⟨g, S2⟩ := S.alloc (Γ := Γ) (s := s) (t := s.toks) hk (o := { cls := .type "list", data := .seq (vs.toArray ++ us.toArray) }) rfl aBe (.lst (a ++ b))
  ⟨vs ++ us, 0, by rw [Heap.get?_push_size _ rfl, List.append_toArray], (w1.append w2).mono (fun _ _ _ e => aB5 (hn _) e) fun a o n e => Heap.get?_push_of_some _ e⟩
 exact ⟨.ref k, _, _, h, .ref aB0, g, S2⟩
theorem aVj {a b : List AV} {Q : AV → AH → Prop} (ha : a.isEmpty = false) (hb : b.isEmpty = false) (hz : a.length + b.length ≤ 1000000) (h : Q (.tup (a ++ b)) H) : Bi Γ d .Add (.tup a) (.tup b) H Q := Bi.mk fun A s φ x y R S r1 r2 => by
 cases r1; cases r2; rename_i a1 vs n q1 w1 a2 us n2 q2 w2
 have l1 := w1.length
 have l2 := w2.length
 refine PySem.P.add_tuple q1 q2 ?_ ?_ ?_ (by rw [List.size_toArray, List.size_toArray, l1, l2, sizeLine_eq]; omega)
 ·cases vs with
  | nil => cases w1; cases ha
  | cons _ _ => simp
 ·cases us with
  | nil => cases w2; cases hb
  | cons _ _ => simp
 ·obtain ⟨g2, S2⟩ := S.pushed (Γ := Γ) (s := s) { cls := .type "tuple", data := .seq (vs.toArray ++ us.toArray) } (t := s.toks)
  exact ⟨.tup _, H, φ, h, .tup (vs := vs ++ us) (by rw [Heap.get?_push_size _ rfl, List.append_toArray]) ((w1.go S g2).append (w2.go S g2)), g2, S2⟩
theorem aVz {e : Expr} {p : Pos} {Q : AV → AH → Prop} (h : Ev Γ fc d e ρ H (fun v H' => ∃ a, v = .int a ∧ Q (.int (-a)) H')) : Ev Γ fc d (.UnaryOp .USub e p) ρ H Q := Ev.mk fun A s φ L m R hk x =>
 wpAny_UnaryOp (aAa (α := Unit) (E := noE) h R hk x fun v H' φ' y s' zz0 r1 g x' => by
  obtain ⟨a, e, q⟩ := zz0
  subst e; cases r1
  exact PySem.P.neg_int (aB7 g (aAe q (.int _ _) x'.st)))
theorem aGd {t a b : Expr} {p : Pos} {Q : AV → AH → Prop} (h : Tv Γ fc d t ρ H (KIfe Γ fc d a b ρ Q)) : Ev Γ fc d (.IfExp t a b p) ρ H Q := Ev.mk fun A s φ L m R hk y =>
 wpAny_IfExp (aDq h R hk y fun v H' φ' s' q g x' => by
  cases v with
  | true => exact aAf ((q.1 rfl).go A s' φ' L m R hk x') fun f s'' p => aB7 g p
  | false => exact aAf ((q.2 rfl).go A s' φ' L m R hk x') fun f s'' p => aB7 g p)
structure Bc (Γ : Cx) (fc : FC) (d : Nat) (op : BoolOp) (es : List Expr) (ρ : Loc) (H : AH) (Q : AV → AH → Prop) : Prop where
 go : ∀ (A : Around) (s : Shared) (φ : Mp) (L : Addr) (m : Str → Option Value) (pos : Pos), Room A d → fc.scope.kind = .function → Here Γ fc φ H ρ L m s.heap →
  wpAny (model pw Γ.w) A (boolOp pos op (evalEach es (fc.env L))) (Post Γ φ s Q) noE s
theorem aNa {op : BoolOp} {es : List Expr} {p : Pos} {Q : AV → AH → Prop} (h : Bc Γ fc d op es ρ H Q) : Ev Γ fc d (.BoolOp op es p) ρ H Q := Ev.mk fun A s φ L m R hk x =>
 h.go A s φ L m p R hk x
theorem aTj {op : BoolOp} {e : Expr} {Q : AV → AH → Prop} (h : Ev Γ fc d e ρ H Q) : Bc Γ fc d op [e] ρ H Q := Bc.mk fun A s φ L m pos R hk x => h.go A s φ L m R hk x
abbrev KBcA (Γ : Cx) (fc : FC) (d : Nat) (es : List Expr) (ρ : Loc) (Q : AV → AH → Prop) : AV → AH → Prop := fun v H => ∃ b, Truth H v b ∧ (b = true → Bc Γ fc d .And es ρ H Q) ∧ (b = false → Q v H)
theorem aVe {e e' : Expr} {es : List Expr} {Q : AV → AH → Prop} (h : Ev Γ fc d e ρ H (KBcA Γ fc d (e' :: es) ρ Q)) : Bc Γ fc d .And (e :: e' :: es) ρ H Q := Bc.mk fun A s φ L m pos R hk x => by
 show wpAny _ _ (do
  let v ← eval e (fc.env L)
  standAt pos
  let t ← holding [v] (truthy v)
  match BoolOp.And, t with
  | .And, false | .Or, true => pure v
  | _, _ => boolOp pos .And (evalEach (e' :: es) (fc.env L))) _ _ _
 refine wpAny_bind (aAa (α := Unit) (E := noE) h R hk x fun v H' φ' y s' ⟨b, t, q⟩ r g x' => wpAny_bind (wpAny_standAt (wpAny_bind (wpAny_holding (aLn x'.st r t fun s'' g2 S2 => ?_)))))
 cases b with
 | false => exact wpAny_pure ⟨v, H', φ', q.2 rfl, r.go x'.st g2, g.trans g2, S2⟩
 | true => exact aAf ((q.1 rfl).go A s'' φ' L m pos R hk (x'.go g2 S2)) fun _ _ p => aB7 (g.trans g2) p
theorem aDt {n z : Nat} (h : n < z) : seqIndex? (n : Int) z = some n := by
 unfold seqIndex?
 dsimp only
 rw [if_neg (show ¬ ((n : Int) < 0) by omega)]
 rw [if_pos (by simp only [Bool.and_eq_true, decide_eq_true_eq]; exact ⟨(zi [n] [] .e (.n 0) (.u 0) rfl), (zi [n, z] [] (.h 1 (.c (.a (.v 0) (.n 1))) (.u 1) .e) (.a (.u 0) (.n 1)) (.u 1) rfl (zcl h))⟩)]
 simp
structure Sb (Γ : Cx) (d : Nat) (v u : AV) (H : AH) (Q : AV → AH → Prop) : Prop where
 go : ∀ (A : Around) (s : Shared) (φ : Mp) (x y : Value), Room A d → St Γ.w Γ.h₀ φ H s.heap → VR φ s.heap v x → VR φ s.heap u y →
  (∃ T id, s.TypeIs x T ∧ typeLookup (.type T) "__getitem__" = pure (some (.builtin id))) ∧ wpAny (model pw Γ.w) A (getItem x y) (Post Γ φ s Q) noE s
abbrev KSub2 (Γ : Cx) (d : Nat) (v : AV) (Q : AV → AH → Prop) : AV → AH → Prop := fun u H => Sb Γ d v u H Q
abbrev KSub (Γ : Cx) (fc : FC) (d : Nat) (r : Expr) (ρ : Loc) (Q : AV → AH → Prop) : AV → AH → Prop := fun v H => Ev Γ fc d r ρ H (KSub2 Γ d v Q)
theorem aT1 {l r : Expr} {p : Pos} {Q : AV → AH → Prop} (h : Ev Γ fc d l ρ H (KSub Γ fc d r ρ Q))
  (hs : nsl r = true := by exact (rfl : true = true)) : Ev Γ fc d (.Subscript l r p) ρ H Q := Ev.mk fun A s φ L m R hk x =>
 Subscript_ (aAa (α := Unit) (E := noE) h R hk x fun v H' φ' y s' q r1 g x' =>
  aAa (α := Unit) (E := noE) q R hk x' fun u H'' φ'' z s'' c r2 g2 x'' => by
   obtain ⟨⟨T, id, hT, hl⟩, hw⟩ := c.go A s'' φ'' y z R x''.st (r1.go x'.st g2) r2
   exact tail_any hT hl (aAf hw fun _ _ pq => aB7 (g.trans g2) pq) (aV9 hs _ _))
theorem aC7 {i : Id} {l : List AV} {k : Int} {n : Nat} {v : AV} {Q : AV → AH → Prop} (hi : H i = .live (.lst l)) (hk : k = n) (hx : l[n]? = some v) (hz : n ≤ 1000000) (h : Q v H) : Sb Γ d (.ref i) (.int k) H Q := Sb.mk fun A s φ x y R S r1 r2 => by
 cases r1; cases r2; rename_i c1 e1 t
 refine hZ fun GZ kZ => ?_
 obtain ⟨a1, f1, vs, n', q1, w1⟩ := S.live _ _ hi
 rwa [e1] at f1
 obtain ⟨z, hz1, hz2⟩ := w1.get hx
 have hl : s.heap.IsList c1 vs.toArray := ⟨_, q1, rfl, _, rfl⟩
 subst hk
 refine kZ ?_
 exact ⟨⟨"list", _, hl.typeIs, slot_list_getitem.lookup⟩, wpAny_getItem_list hl (by omega) (by exact oz312 hz) (by rw [Int.toNat_natCast]; simpa using hz1) (aAu h hz2 S)⟩
theorem aGg {i : Id} {l : List AV} {v : AV} {Q : AV → AH → Prop} (hi : H i = .live (.lst l)) (hx : l.getLast? = some v) (h : Q v H) : Sb Γ d (.ref i) (.int (-1)) H Q := Sb.mk fun A s φ x y R S r1 r2 => by
 cases r1; cases r2; rename_i c1 e1 t
 refine hZ fun GZ kZ => ?_
 obtain ⟨a1, f1, vs, n', q1, w1⟩ := S.live _ _ hi
 rwa [e1] at f1
 have ll := w1.length
 have hl : s.heap.IsList c1 vs.toArray := ⟨_, q1, rfl, _, rfl⟩
 rw [List.getLast?_eq_getElem?] at hx
 have hpos : 0 < l.length := by
  cases l with
  | nil => cases hx
  | cons _ _ => simp
 obtain ⟨z, hz1, hz2⟩ := w1.get hx
 refine kZ ?_
 refine ⟨⟨"list", _, hl.typeIs, slot_list_getitem.lookup⟩, wpAny_getItem_list_neg hl (by decide) (by rw [List.size_toArray]; exact zi [l.length, vs.length] [] (.h 1 (.u 0) (.u 1) (.h 1 (.c (.a (.n 0) (.n 1))) (.u 0) .e)) (.g (.u 1)) (.g (.n 1)) rfl (zcl (Nat.le_of_eq ll.symm)) (zcl hpos)) (by decide) (x := z) ?_ (aAu h hz2 S)⟩
 have : (-1 + ((vs.toArray.size : Nat) : Int)).toNat = l.length - 1 := by rw [List.size_toArray]; exact oz314 ll hpos
 rw [this]; simpa using hz1
theorem aHw {l : List AV} {k : Int} {n : Nat} {v : AV} {Q : AV → AH → Prop} (hk : k = n) (hx : l[n]? = some v) (hz : n ≤ 1000000) (h : Q v H) : Sb Γ d (.tup l) (.int k) H Q := Sb.mk fun A s φ x y R S r1 r2 => by
 cases r1; cases r2; rename_i a vs n' q1 w1 t
 obtain ⟨z, hz1, hz2⟩ := w1.get hx
 have ht : IsTup s.heap a vs.toArray := ⟨_, q1, rfl, _, rfl⟩
 subst hk
 refine ⟨⟨"tuple", _, ht.typeIs, slot_tuple_getitem.lookup⟩, PyProof.Rows.getItem_tuple ht (j := n) (by omega) (by exact oz312 hz) ?_ (by simpa using hz1) (aAu h hz2 S)⟩
 have : n < vs.length := by
  rcases Nat.lt_or_ge n vs.length with q | q
  ·exact q
  ·rwa [List.getElem?_eq_none q] at hz1
 exact aDt (by rw [List.size_toArray]; exact this)
theorem aB9 {i : Id} {es : List (Str × AV)} {k : Str} {v : AV} {Q : AV → AH → Prop} (hi : H i = .live (.dcs es)) (hm : (k, v) ∈ es) (h : Q v H) : Sb Γ d (.ref i) (.str k) H Q := Sb.mk fun A s φ x y R S r1 r2 => by
 cases r1; cases r2; rename_i c1 e1 t
 refine hZ fun GZ kZ => ?_
 obtain ⟨a1, f1, kvs, D, r⟩ := S.live _ _ hi
 rwa [e1] at f1
 obtain ⟨_, _, _, _, _, _, _, _, nd⟩ := id D
 obtain ⟨z, hz1, hz2⟩ := r.find nd hm
 refine kZ ?_
 exact ⟨⟨"dict", _, D.mapOf.typeIs, slot_dict_getitem.lookup⟩, wpAny_getItem_of (strKind_is _ _ k t) D.mapOf hz1 (aAe h hz2 S)⟩
theorem aW6 {a : Str} {k : Int} {n : Nat} {c : Nat} {Q : AV → AH → Prop} (hk : k = n) (hx : a.cps[n]? = some c) (hz : n ≤ 1000000) (h : Q (.str ⟨#[c]⟩) H) : Sb Γ d (.str a) (.int k) H Q := Sb.mk fun A s φ x y R S r1 r2 => by
 cases r1; cases r2
 subst hk
 refine ⟨⟨"str", _, typeIs_str s _ _, PySem.F.slot_str_getitem.lookup⟩, PySem.P.getItem_str (c := c) (by simp only [Bool.or_eq_false_iff, decide_eq_false_iff_not]; exact ⟨(fun e => (zff (zco (zi [n] [] (.h 1 (.a (.u 0) (.n 1)) (.g (.n (2^63))) .e) (.n 1) (.n 0) rfl e)))), (fun e => (zff (zco (zi [n] [] (.h 1 (.u 0) (.n 1000000) (.h 1 (.n (2^63)) (.u 0) .e)) (.n 1) (.n 0) rfl (zcl hz) e))))⟩) ?_ (aAe h (.str _ _) S)⟩
 have : n < a.cps.size := by
  rcases Nat.lt_or_ge n a.cps.size with q | q
  ·exact q
  ·rwa [Array.getElem?_eq_none q] at hx
 rw [aDt (show n < a.length from this)]
 exact hx
end
end
section
section
variable {Γ : Cx} {fc : FC} {d : Nat} {ρ : Loc} {H : AH}
inductive Rep {T : Type} (k : T) (v : AV) : List (T × AV) → List (T × AV) → Prop
 | here {u : AV} {r : List (T × AV)} : Rep k v ((k, u) :: r) ((k, v) :: r)
 | there {p : T × AV} {r r' : List (T × AV)} : Rep k v r r' → Rep k v (p :: r) (p :: r')
inductive Sto {T : Type} (k : T) (v : AV) (es : List (T × AV)) : List (T × AV) → Prop
 | rep {es' : List (T × AV)} : Rep k v es es' → Sto k v es es'
 | new : k ∉ es.map (·.1) → Sto k v es (es ++ [(k, v)])
theorem Rep.keys {T : Type} {k : T} {v : AV} {es es' : List (T × AV)} (r : Rep k v es es') : es'.map (·.1) = es.map (·.1) := by
 induction r with
 | here => rfl
 | there _ ih => simp [ih]
theorem Rep.mem {T : Type} {k : T} {v : AV} {es es' : List (T × AV)} (r : Rep k v es es') : k ∈ es.map (·.1) := by
 induction r with
 | here => exact .head _
 | there _ ih => exact .tail _ ih
theorem Rep.store {T : Type} [DecidableEq T] {φ : Mp} {h : Heap} {k : T} {v : AV} {y : Value} {es es' : List (T × AV)} {kvs : List (T × Value)} (r : Rep k v es es') (E : ES φ h es kvs) (nd : (kvs.map (·.1)).Nodup) (q : VR φ h v y) :
  ES φ h es' (kvs.map fun kv => if kv.1 = k then (kv.1, y) else kv) := by
 induction r generalizing kvs with
 | @here u r =>
  cases E with
  | @cons _ _ x _ xs a E =>
   rw [List.map_cons, List.nodup_cons] at nd
   rw [List.map_cons, if_pos rfl, map_store_of_not_mem xs k y nd.1]
   exact .cons q E
 | @there p r r' hr ih =>
  cases E with
  | @cons k' _ x _ xs a E =>
   rw [List.map_cons, List.nodup_cons] at nd
   have : k' ≠ k := by
    rintro rfl
    apply nd.1
    rw [E.keys]; exact hr.mem
   rw [List.map_cons, if_neg this]
   exact .cons a (ih E nd.2)
theorem ES.snoc {T : Type} {φ : Mp} {h : Heap} {k : T} {v : AV} {y : Value} {es : List (T × AV)} {kvs : List (T × Value)} (E : ES φ h es kvs) (q : VR φ h v y) : ES φ h (es ++ [(k, v)]) (kvs ++ [(k, y)]) := by
 induction E with
 | nil => exact .cons q .nil
 | cons a _ ih => exact .cons a ih
theorem Sto.es {T : Type} [DecidableEq T] {φ : Mp} {h : Heap} {k : T} {v : AV} {y : Value} {es es' : List (T × AV)} {kvs : List (T × Value)} (r : Sto k v es es') (E : ES φ h es kvs) (nd : (kvs.map (·.1)).Nodup) (q : VR φ h v y) : ES φ h es' (stored kvs k y) := by
 cases r with
 | rep r =>
  have : (kvs.any fun kv => decide (kv.1 = k)) = true := by
   have m := r.mem
   rw [← E.keys] at m
   obtain ⟨p, h1, h2⟩ := List.mem_map.mp m
   exact List.any_eq_true.mpr ⟨p, h1, decide_eq_true h2⟩
  rw [stored, if_pos this]
  exact r.store E nd q
 | new hn =>
  have : ¬ (kvs.any fun kv => decide (kv.1 = k)) = true := by
   intro a
   obtain ⟨p, h1, h2⟩ := List.any_eq_true.mp a
   exact hn (by rw [← E.keys]; exact List.mem_map.mpr ⟨p, h1, of_decide_eq_true h2⟩)
  rw [stored, if_neg this]
  exact E.snoc q
theorem Sto.keys {T : Type} {k : T} {v : AV} {es es' : List (T × AV)} (r : Sto k v es es') : ∀ x, x ∈ es'.map (·.1) → x = k ∨ x ∈ es.map (·.1) := by
 cases r with
 | rep r => intro x hx; rw [r.keys] at hx; exact .inr hx
 | new _ =>
  intro x hx
  rw [List.map_append, List.mem_append] at hx
  rcases hx with hx | hx
  ·exact .inr hx
  ·exact .inl (by simpa using hx)
theorem ES.mono' {T : Type} {φ : Mp} {h h' : Heap} {es : List (T × AV)} {kvs : List (T × Value)} (E : ES φ h es kvs) (m : ∀ v y, VR φ h v y → VR φ h' v y) : ES φ h' es kvs := by
 induction E with
 | nil => exact .nil
 | cons a _ ih => exact .cons (m _ _ a) ih
theorem VRs.mono' {φ : Mp} {h h' : Heap} {l : List AV} {xs : List Value} (r : VRs φ h l xs) (m : ∀ v y, VR φ h v y → VR φ h' v y) : VRs φ h' l xs := by
 induction l generalizing xs with
 | nil => cases r; exact .nil
 | cons v l ih => cases r with | cons a r => exact .cons (m _ _ a) (ih r)
theorem aFh {w : World} {h : Heap} {dx : Addr} {od : Obj} {kvs : List (Str × Value)} (D : h.DictOf (strKind pw w) dx kvs) (hod : h.get? dx = some od) {n : Str} {t : Tok} {y : Value} (hz : kvs.length ≤ 900) :
  (∃ es n', od.data = .dict es n' ∧ (!es.any (·.key.isStr n) && es.any (·.refKey)) = false) ∧
  (∃ es n', (od.putName n (PyData.keyHash w.params n) (.str n t) y).data = .dict es n' ∧ es.size ≤ 1000) ∧
  (h.update dx (Obj.putName n (PyData.keyHash w.params n) (.str n t) y)).DictOf (strKind pw w) dx (stored kvs n y) ∧ (od.putName n (PyData.keyHash w.params n) (.str n t) y).isFreed = false := by
 obtain ⟨o, es, ep, ho, hc, hd, hk, hp, hn⟩ := D
 rwa [hod] at ho
 have hsz : es.size = kvs.length := by have := hp.length; simpa using this
 obtain ⟨c, dd, da, sl⟩ := od
 dsimp only at hd
 subst hd
 have hkey : (strKind pw w).is n (.str n t) = true := strKind_is _ _ n t
 have rk : es.any (·.refKey) = false := by
  rw [Array.any_eq_false']
  intro en hen
  obtain ⟨k, hk', _⟩ := hk en hen
  obtain ⟨t, ht⟩ := Value.isStrOf_shape hk'
  simp [DictEntry.refKey, ht]
 have hidx : (es.findIdx? fun e => e.key.isStr n) = kvs.findIdx? fun kv => decide (kv.1 = n) := by
  rw [← hp.findIdx n]
  have : (fun e : DictEntry => e.key.isStr n) = fun e => (strKind pw w).is n e.key := funext fun e => by
   show _ = Value.isStrOf n e.key
   rw [isStr_of]
  rw [this]
  obtain ⟨l⟩ := es; simp
 have hput : Obj.putName n (PyData.keyHash w.params n) (.str n t) y ⟨c, dd, .dict es ep, sl⟩ = (match es.findIdx? (·.key.isStr n) with
   | some i => ⟨c, dd, .dict (es.modify i fun e => { e with val := y }) ep, sl⟩
   | none => ⟨c, dd, .dict (es.push ⟨PyData.keyHash w.params n, .str n t, y⟩) (ep + 1), sl⟩) := by
  rw [Obj.putName_eq]; rfl
 refine ⟨⟨es, ep, rfl, by rw [rk, Bool.and_false]⟩, ?_⟩
 cases hi : es.findIdx? (·.key.isStr n) with
 | some i =>
  rw [hi] at hput
  dsimp only at hput
  have hst : stored kvs n y = kvs.map (fun kv => if kv.1 = n then (kv.1, y) else kv) := by rw [stored, if_pos (any_of_findIdx_some (hidx ▸ hi))]
  refine ⟨⟨_, _, by rw [hput], by rw [Array.size_modify]; exact zn [es.size, kvs.length] (.h 1 (.v 1) (.n 900) (.h 1 (.v 0) (.v 1) .e)) (.v 0) (.n 1000) rfl hz (Nat.le_of_eq hsz)⟩, ⟨_, es.modify i fun e => { e with val := y }, ep, Heap.get?_update_self _ hod (by rw [hput]; rfl), ?_, by rw [hput], hk.modify _ _, ?_, ?_⟩, by rw [hput]; rfl⟩
  ·rw [hput]; exact hc
  ·rw [hst]
   have hl : (es.toList.findIdx? fun e => (strKind pw w).is n e.key) = some i := by
    have : (fun e : DictEntry => (strKind pw w).is n e.key) = fun e => e.key.isStr n := funext fun e => by
     show Value.isStrOf n e.key = _
     rw [isStr_of]
    rw [this, ← hi]; obtain ⟨l⟩ := es; simp
   have := hp.modify hn hl y
   obtain ⟨l⟩ := es
   simpa using this
  ·rw [hst, keys_map_store]; exact hn
 | none =>
  rw [hi] at hput
  dsimp only at hput
  have hnot : n ∉ kvs.map (·.1) := not_mem_of_findIdx_none (hidx ▸ hi)
  have hany : ¬ (kvs.any fun kv => decide (kv.1 = n)) = true := by
   rw [List.any_eq_true]; rintro ⟨kv, hkv, he⟩
   exact hnot (List.mem_map.mpr ⟨kv, hkv, of_decide_eq_true he⟩)
  have hst : stored kvs n y = kvs ++ [(n, y)] := by rw [stored, if_neg hany]
  refine ⟨⟨_, _, by rw [hput], by rw [Array.size_push]; exact zn [es.size, kvs.length] (.h 1 (.v 1) (.n 900) (.h 1 (.v 0) (.v 1) .e)) (.a (.v 0) (.n 1)) (.n 1000) rfl hz (Nat.le_of_eq hsz)⟩, ⟨_, es.push ⟨PyData.keyHash w.params n, .str n t, y⟩, ep + 1, Heap.get?_update_self _ hod (by rw [hput]; rfl), ?_, by rw [hput], hk.push hkey y, ?_, ?_⟩, by rw [hput]; rfl⟩
  ·rw [hput]; exact hc
  ·rw [hst]
   have := hp.append hkey (PyData.keyHash w.params n) y
   obtain ⟨l⟩ := es
   simpa using this
  ·rw [hst, List.map_append, List.nodup_append]
   refine ⟨hn, by simp, ?_⟩
   intro a ha b hb
   simp only [List.map_cons, List.map_nil, List.mem_singleton] at hb
   subst hb
   rintro rfl
   exact hnot ha
theorem aV6 {A : Around} {s : Shared} {φ : Mp} {i : Id} {a C : Addr} {fs fs' : List (Str × AV)} {n : Str} {tk : Tok} {v : AV} {y : Value} {R : Result → Shared → Prop} (hc : ClsOk Γ.w.params C) (S : St Γ.w Γ.h₀ φ H s.heap)
  (hi : H i = .live (.ins C fs)) (ha : φ i false = some a) (r : VR φ s.heap v y) (ht : findIn (K Γ.w.params) (.ref C) n = some none) (hz : Nat.ble fs.length 900 = true) (hs : Sto n v fs fs')
  (h : ∀ s', Go φ s φ s' → St Γ.w Γ.h₀ φ (upd H i (.live (.ins C fs'))) s'.heap → R (.ok (.ret .none)) s') : codeAny (model pw Γ.w) A (.call (.builtin "object.__setattr__") ⟨[.ref a, .str n tk, y], []⟩) R s := by
 refine hZ fun GZ kZ => ?_
 obtain ⟨a', e', o⟩ := S.live i _ hi
 rwa [ha] at e'
 obtain ⟨dx, kvs, h1, h2, D, E, hp⟩ := o
 have hlen : kvs.length ≤ 900 := by rw [E.length]; exact Nat.le_of_ble_eq_true hz
 obtain ⟨od, hod, hlk⟩ := aBn D
 have I : InstAt s.heap a (instObj C dx) C (some od) := ⟨h1, rfl, rfl, hod⟩
 have X : (K Γ.w.params).In s.heap := S.inK
 have htk : takerIn (K Γ.w.params) C n = some none := by unfold takerIn; rw [ht]; rfl
 have nd : (kvs.map (·.1)).Nodup := by obtain ⟨_, _, _, _, _, _, _, _, nd⟩ := id D; exact nd
 refine kZ ?_
 refine osa_open X I hc.over htk fun b => ?_
 obtain ⟨cd, hcc, hd'⟩ := any_some hc.dict
 refine wpAny_bind (wpAny_pure (wpAny_bind (wpAny_bind (wpAny_loadPart h1 (wpAny_bind ((looks_clsIn X hcc).here ?_))))))
 rw [hd']
 refine wpAny_pure (a := some dx) (wpAny_bind (wpAny_pure (wpAny_bind ?_)))
 unfold nsSet
 refine wpAny_bind (wpAny_bind (wpAny_askSetting (wpAny_pure (wpAny_bind (wpAny_mkText (wpAny_bind (wpAny_loadPart hod ?_)))))))
 obtain ⟨⟨es, n', q1, q2⟩, ⟨es2, n2, q3, q4⟩, q5, q6⟩ := aFh (t := s.toks) (y := y) D hod (n := n) hlen
 obtain ⟨oc, odd, oda, osl⟩ := od
 dsimp only at q1
 subst q1
 dsimp only
 rw [aRefKeyMayBeTheName_at, q2]
 refine wpAny_updatePart hod ?_
 have hal : (s.heap.update dx (Obj.putName n (PyData.keyHash Γ.w.params n) (.str n s.toks) y)).get? dx = some (Obj.putName n (PyData.keyHash Γ.w.params n) (.str n s.toks) y ⟨oc, odd, .dict es n', osl⟩) := Heap.get?_update_self _ hod q6
 refine wpAny_bind (wpAny_lookBehind hal (by rw [q3]; exact pastItsLine_dict (by rw [sizeLine_eq]; omega)) ?_)
 have hcls : (Obj.putName n (PyData.keyHash Γ.w.params n) (.str n s.toks) y ⟨oc, odd, .dict es n', osl⟩).cls ≠ .type "tuple" := by
  obtain ⟨o5, _, _, e5, c5, _⟩ := q5
  rwa [hal] at e5
  rw [c5.1]; exact aBd
 obtain ⟨g, S2⟩ := S.store (Γ := Γ) (t := s.toks + 1) h2 (h' := s.heap.update dx (Obj.putName n (PyData.keyHash Γ.w.params n) (.str n s.toks) y)) (Heap.SameBut.update ..) hi ⟨_, hal, hcls⟩ (ao' := .ins C fs') (fun a2 e2 mono => by
  rwa [ha] at e2
  have hne : a ≠ dx := fun e => by subst e; exact absurd (S.inj _ _ _ _ _ ha h2).2 (by decide)
  refine ⟨dx, stored kvs n y, (Heap.get?_update_other s.heap _ (Ne.symm hne)).trans h1, h2, q5, hs.es (E.mono' mono) nd (mono _ _ r), fun p hp' => ?_⟩
  rcases hs.keys p.1 (List.mem_map.mpr ⟨p, hp', rfl⟩) with e | e
  ·rw [e]; exact ht
  ·obtain ⟨p2, e1, e2⟩ := List.mem_map.mp e
   rw [← e2]; exact hp p2 e1)
 exact wpAny_pure (h _ g S2)
theorem aKl {A : Around} {s : Shared} {φ : Mp} {i : Id} {a C : Addr} {fs fs' : List (Str × AV)} {n : Str} {v : AV} {y : Value} {R : Unit → Shared → Prop} (hc : ClsOk Γ.w.params C) (S : St Γ.w Γ.h₀ φ H s.heap)
  (hi : H i = .live (.ins C fs)) (ha : φ i false = some a) (r : VR φ s.heap v y) (ht : findIn (K Γ.w.params) (.ref C) n = some none) (hz : Nat.ble fs.length 900 = true) (hs : Sto n v fs fs')
  (h : ∀ s', Go φ s φ s' → St Γ.w Γ.h₀ φ (upd H i (.live (.ins C fs'))) s'.heap → R () s') : wpAny (model pw Γ.w) A (setAttr (.ref a) n y) R noE s := by
 refine hZ fun GZ kZ => ?_
 obtain ⟨a', e', o⟩ := S.live i _ hi
 rwa [ha] at e'
 obtain ⟨dx, kvs, h1, h2, D, E, hp⟩ := o
 obtain ⟨od, hod, hlk⟩ := aBn D
 have I : InstAt s.heap a (instObj C dx) C (some od) := ⟨h1, rfl, rfl, hod⟩
 refine kZ ?_
 exact set_plain S.inK I hc.sa (aV6 (s := { s with toks := s.toks + 1 }) hc S hi ha r ht hz hs fun s' g S2 => h s' (Go.tok.trans g) S2)
theorem aM1 {o e : Expr} {n : Str} {p1 p : Pos} {Q : AF → Loc → AH → Prop}
  (h : Ev Γ fc d e ρ H (fun v H' => Ev Γ fc d o ρ H' (fun u H'' => ∃ i C fs fs', u = .ref i ∧ H'' i = .live (.ins C fs) ∧ ClsOk Γ.w.params C ∧ findIn (K Γ.w.params) (.ref C) n = some none ∧ Nat.ble fs.length 900 = true ∧ Sto n v fs fs' ∧ Q .next ρ (upd H'' i (.live (.ins C fs'))))))
  (hs : ∀ env, swapsWith e (some (.Attribute o n p1)) p.line env = pure false := by intro; rfl) : Ex Γ fc d (.Assign [.Attribute o n p1] e p) ρ H Q := Ex.mk fun A s φ L m R hk x =>
 plainObj_wpAny_Assign_Attribute (aAa (α := Unit) (E := noE) h R hk x fun v H' φ' y s' q r g x' =>
  aAa (α := Unit) (E := noE) q R hk x' fun u H'' φ'' z s'' zz0 r2 g2 x'' => by
   refine hZ fun GZ kZ => ?_
   obtain ⟨i, C, fs, fs', hu, hi, hc, ht, hz, hst, q2⟩ := zz0
   subst hu
   cases r2
   refine kZ ?_
   rename_i ha
   exact aKl hc x''.st hi ha (r.go x'.st g2) ht hz hst fun s3 g3 S3 => ⟨.next, ρ, _, φ'', m, q2, .next, ((g.trans g2).trans g3).toL, x''.go g3 S3⟩) (hs _)
structure Si (Γ : Cx) (d : Nat) (u k v : AV) (H : AH) (Q : AH → Prop) : Prop where
 go : ∀ (A : Around) (s : Shared) (φ : Mp) (x y z : Value), Room A d → St Γ.w Γ.h₀ φ H s.heap → VR φ s.heap u x → VR φ s.heap k y → VR φ s.heap v z →
  wpAny (model pw Γ.w) A (setItem x y z) (fun _ s' => ∃ H', Q H' ∧ Go φ s φ s' ∧ St Γ.w Γ.h₀ φ H' s'.heap) noE s
theorem aNh {o i e : Expr} {p1 p : Pos} {Q : AF → Loc → AH → Prop}
  (h : Ev Γ fc d e ρ H (fun v H' => Ev Γ fc d o ρ H' (fun u H'' => Ev Γ fc d i ρ H'' (fun k H3 => Si Γ d u k v H3 (fun H4 => Q .next ρ H4)))))
  (hs : ∀ env, swapsWith e (some (.Subscript o i p1)) p.line env = pure false := by intro; rfl) : Ex Γ fc d (.Assign [.Subscript o i p1] e p) ρ H Q := Ex.mk fun A s φ L m R hk x =>
 wpAny_Assign_Subscript (aAa (α := Unit) (E := noE) h R hk x fun v H' φ' y s' q r g x' =>
  aAa (α := Unit) (E := noE) q R hk x' fun u H'' φ'' z s'' q2 r2 g2 x'' =>
   aAa (α := Unit) (E := noE) q2 R hk x'' fun k H3 φ3 z3 s3 q3 r3 g3 x3 =>
    aAf (q3.go A s3 φ3 z z3 y R x3.st (r2.go x''.st g3) r3 ((r.go x'.st g2).go x''.st g3)) fun _ s4 zz0 => by obtain ⟨H4, q4, g4, S4⟩ := zz0; exact 
     ⟨.next, ρ, _, φ3, m, q4, .next, (((g.trans g2).trans g3).trans g4).toL, x3.go g4 S4⟩) (hs _)
theorem St.lst {φ : Mp} {s : Shared} (S : St Γ.w Γ.h₀ φ H s.heap) {i : Id} {a : Addr} {l l' : List AV} {vs vs' : List Value} {n : Nat} {f : Array Value → Array Value} {t : Nat} (hi : H i = .live (.lst l)) (ha : φ i false = some a) (q : s.heap.get? a = some (listOf vs.toArray n)) (hf : f vs.toArray = vs'.toArray) (r : VRs φ s.heap l' vs') :
  Go φ s φ { s with heap := s.heap.update a (Obj.mapSeq f), toks := t } ∧ St Γ.w Γ.h₀ φ (upd H i (.live (.lst l'))) (s.heap.update a (Obj.mapSeq f)) := by
 have e : ∃ n', (s.heap.update a (Obj.mapSeq f)).get? a = some (listOf vs'.toArray n') := by
  obtain ⟨n', hd⟩ := Obj.data_mapSeq (o := listOf vs.toArray n) rfl f
  refine ⟨n', (Heap.get?_update_self _ q (Obj.isFreed_of_seq hd)).trans ?_⟩
  have : Obj.mapSeq f (listOf vs.toArray n) = listOf (f vs.toArray) n' := by
   generalize hg : Obj.mapSeq f (listOf vs.toArray n) = o at hd
   have c1 : o.cls = .type "list" := by rw [← hg]; exact Obj.cls_mapSeq ..
   have c2 : o.dict = none := by rw [← hg]; rfl
   have c3 : o.slots = #[] := by rw [← hg]; rfl
   obtain ⟨oc, od, oda, os⟩ := o
   dsimp only at c1 c2 c3 hd
   subst c1 c2 c3 hd
   rfl
  rw [this, hf]
 obtain ⟨n', e⟩ := e
 exact S.store (Γ := Γ) (t := t) ha (h' := s.heap.update a (Obj.mapSeq f)) (Heap.SameBut.update ..) hi ⟨_, e, aBe⟩ (ao' := .lst l') (fun a2 e2 mono => by
  rwa [ha] at e2
  exact ⟨vs', n', e, r.mono' mono⟩)
theorem aEz (vs : List Value) (n : Nat) (z : Value) : vs.toArray.setIfInBounds n z = (vs.set n z).toArray := by simp
theorem aG5 {A : Around} {s : Shared} {l : Addr} {items : Array Value} {m : Nat} {k : Int} {t : Tok} {j : Nat} {v : Value} {Q : Unit → Shared → Prop} (ho : s.heap.get? l = some (listOf items m)) (hj : j < items.size)
  (hk : k = j ∨ (k < 0 ∧ -(items.size : Int) ≤ k ∧ j = (k + items.size).toNat)) (hz : items.size ≤ 1000000)
  (hQ : Q () { s with heap := s.heap.update l (Obj.mapSeq (·.setIfInBounds j v)) }) : wpAny (model pw Γ.w) A (setItem (.ref l) (.int k t) v) Q noE s := by
 have hl : s.heap.IsList l items := ⟨_, ho, rfl, _, rfl⟩
 have hx' : items[j]? = some items[j] := Array.getElem?_eq_getElem hj
 unfold setItem
 try with_reducible refine wpAny_holding ?_
 first | refine wpAny_bind (wpAny_pure ?_) | skip
 refine wpAny_bind (wpAny_sequenceKey hl.typeIs (by decide) ?_)
 refine wpAny_bind (wpAny_callSpecial?_slot (name := oS "__setitem__") hl.typeIs slot_list_setitem
  (wpAny_call_entry slot_list_setitem hl.typeIs entry_list_setitem ?_ (args_list_setitem _ _ _)))
 show wpAny _ _ (Builtin.List.listSubscript? (.int k t) >>= _) _ _ s
 rcases hk with hk | ⟨h0, h1, rfl⟩
 ·have hf := fitsIndex_of (k := k) (by omega) (by exact zi [j, items.size] [k] (.h 1 (.c (.a (.v 0) (.n 1))) (.u 1) (.h 1 (.u 1) (.n 1000000) (.h 1 (.w 0) (.u 0) .e))) (.a (.w 0) (.n 1)) (.n (2^63)) rfl (zcl hj) (zcl hz) (Int.le_of_eq hk))
  refine wpAny_bind (wpAny_listSubscript_int hf ?_)
  clear hf
  subst hk
  show wpAny _ _ ((seqItemAt l j >>= fun r => pure (r.map (j, ·))) >>= _) _ _ s
  refine wpAny_bind (wpAny_bind (wpAny_seqItemAt ho rfl (wpAny_pure ?_)))
  rw [hx']
  show wpAny _ _ (setSeqItemAt l j v >>= _) _ _ s
  refine wpAny_bind (wpAny_setSeqItemAt ho rfl ?_)
  first
   | exact wpAny_bind (wpAny_pure (wpAny_pure ⟨.none, rfl, wpAny_pure hQ⟩))
   | exact wpAny_pure ⟨.none, rfl, wpAny_pure hQ⟩
 ·have hidx := seqIndex_neg h0 h1
  generalize hj' : (k + ((items.size : Nat) : Int)).toNat = j at *
  refine wpAny_bind (wpAny_listSubscript_int (fitsIndex_neg h0 (by exact zi [items.size] [k] (.h 1 (.u 0) (.n 1000000) (.h 1 (.g (.u 0)) (.w 0) .e)) (.g (.n (2^63))) (.w 0) rfl (zcl hz) h1)) ?_)
  obtain ⟨n, rfl⟩ : ∃ n : Nat, k = Int.negSucc n := by
   cases k with
   | ofNat n => exact absurd h0 (Int.not_lt.mpr (Int.natCast_nonneg n))
   | negSucc n => exact ⟨n, rfl⟩
  show wpAny _ _ ((Builtin.List.listItems (.ref l) >>= fun xs => pure ((seqIndex? (Int.negSucc n) xs.size).bind fun i => xs[i]?.map (i, ·))) >>= _) _ _ s
  refine wpAny_bind (wpAny_bind ?_)
  show wpAny _ _ (seqItems? (.ref l) >>= _) _ _ s
  refine wpAny_bind (wpAny_seqItems ho rfl (wpAny_pure (wpAny_pure ?_)))
  rw [hidx]
  simp only [Option.bind_some, hx', Option.map_some]
  show wpAny _ _ (setSeqItemAt l j v >>= _) _ _ s
  refine wpAny_bind (wpAny_setSeqItemAt ho rfl ?_)
  first
   | exact wpAny_bind (wpAny_pure (wpAny_pure ⟨.none, rfl, wpAny_pure hQ⟩))
   | exact wpAny_pure ⟨.none, rfl, wpAny_pure hQ⟩
theorem aT3 {i : Id} {l : List AV} {k : Int} {n : Nat} {v : AV} {Q : AH → Prop} (hi : H i = .live (.lst l)) (hk : k = n) (hn : n < l.length) (hz : l.length ≤ 1000000) (h : Q (upd H i (.live (.lst (l.set n v))))) : Si Γ d (.ref i) (.int k) v H Q := Si.mk fun A s φ x y z R S r1 r2 r3 => by
 cases r1; cases r2; rename_i c1 e1 t
 refine hZ fun GZ kZ => ?_
 obtain ⟨a1, f1, vs, n', q1, w1⟩ := S.live _ _ hi
 rwa [e1] at f1
 have ll := w1.length
 obtain ⟨g, S2⟩ := S.lst (t := s.toks) (f := (·.setIfInBounds n z)) hi e1 q1 (aEz vs n z) (w1.set r3 n)
 refine kZ ?_
 exact aG5 q1 (j := n) (by rw [List.size_toArray]; exact zn [l.length, vs.length, n] (.h 1 (.a (.v 2) (.n 1)) (.v 0) (.h 1 (.v 0) (.v 1) .e)) (.a (.v 2) (.n 1)) (.v 1) rfl hn (Nat.le_of_eq ll.symm)) (.inl hk) (by rw [List.size_toArray]; exact oz321 hz ll) ⟨_, h, g, S2⟩
theorem aU0 {i : Id} {l : List AV} {v : AV} {Q : AH → Prop} (hi : H i = .live (.lst l)) (hn : 0 < l.length) (hz : l.length ≤ 1000000) (h : Q (upd H i (.live (.lst (l.set (l.length - 1) v))))) : Si Γ d (.ref i) (.int (-1)) v H Q := Si.mk fun A s φ x y z R S r1 r2 r3 => by
 cases r1; cases r2; rename_i c1 e1 t
 refine hZ fun GZ kZ => ?_
 obtain ⟨a1, f1, vs, n', q1, w1⟩ := S.live _ _ hi
 rwa [e1] at f1
 have ll := w1.length
 obtain ⟨g, S2⟩ := S.lst (t := s.toks) (f := (·.setIfInBounds (l.length - 1) z)) hi e1 q1 (aEz vs (l.length - 1) z) (w1.set r3 (l.length - 1))
 refine kZ ?_
 exact aG5 q1 (j := l.length - 1) (by rw [List.size_toArray]; exact zco (zi [(l.length - 1), l.length, vs.length] [] (.h 1 (.u 1) (.u 2) (.h 1 (.u 0) (.s (.u 1) (.n 1)) .e)) (.c (.a (.v 0) (.n 1))) (.u 2) rfl (zcl (Nat.le_of_eq ll.symm)) (Int.le_of_eq (Int.ofNat_sub (zn [l.length] (.h 1 (.a (.n 0) (.n 1)) (.v 0) .e) (.n 1) (.v 0) rfl hn))))) (.inr ⟨by decide, by rw [List.size_toArray]; exact zi [l.length, vs.length] [] (.h 1 (.c (.a (.n 0) (.n 1))) (.u 0) (.h 1 (.u 0) (.u 1) .e)) (.g (.u 1)) (.g (.n 1)) rfl (zcl hn) (zcl (Nat.le_of_eq ll.symm)), by rw [List.size_toArray]; exact oz324 hn ll⟩) (by rw [List.size_toArray]; exact oz321 hz ll) ⟨_, h, g, S2⟩
theorem aNr {i : Id} {es es' : List (Str × AV)} {k : Str} {v : AV} {Q : AH → Prop} (hi : H i = .live (.dcs es)) (hs : Sto k v es es') (hz : es.length ≤ 1000000) (h : Q (upd H i (.live (.dcs es')))) : Si Γ d (.ref i) (.str k) v H Q := Si.mk fun A s φ x y z R S r1 r2 r3 => by
 cases r1; cases r2; rename_i c1 e1 t
 refine hZ fun GZ kZ => ?_
 obtain ⟨a1, f1, kvs, D, r⟩ := S.live _ _ hi
 rwa [e1] at f1
 have nd : (kvs.map (·.1)).Nodup := by obtain ⟨_, _, _, _, _, _, _, _, nd⟩ := id D; exact nd
 refine kZ ?_
 refine wpAny_setItem_pairs (strKind_is _ _ k t) D (fun h' D' hs' => ?_) (by rw [r.length, sizeLine_eq]; omega)
 refine hZ fun GZ kZ => ?_
 obtain ⟨o5, _, _, e5, c5, _⟩ := id D'
 refine kZ ?_
 obtain ⟨g, S2⟩ := S.store (Γ := Γ) (t := s.toks + 1) e1 hs' hi ⟨_, e5, by rw [c5.1]; exact aBd⟩ (ao' := .dcs es') (fun a2 e2 mono => by
  rwa [e1] at e2
  exact ⟨_, D', hs.es (r.mono' mono) nd (mono _ _ r3)⟩)
 exact ⟨_, h, g, S2⟩
theorem aT2 {i : Id} {es es' : List (Int × AV)} {ep : Nat} {k : Int} {v : AV} {Q : AH → Prop} (hi : H i = .live (.dci es ep)) (hs : Sto k v es es') (hz : es.length ≤ 1000000) (h : ∀ ep', Q (upd H i (.live (.dci es' ep')))) : Si Γ d (.ref i) (.int k) v H Q := Si.mk fun A s φ x y z R S r1 r2 r3 => by
 cases r1; cases r2; rename_i c1 e1 t
 refine hZ fun GZ kZ => ?_
 obtain ⟨a1, f1, kvs, D, r⟩ := S.live _ _ hi
 rwa [e1] at f1
 have nd : (kvs.map (·.1)).Nodup := D.nodup
 refine kZ ?_
 refine wpAny_setItem_pairs (intKind_is _ _ k t) D.dictOf (fun h' D' hs' => ?_) (by rw [r.length, sizeLine_eq]; omega)
 obtain ⟨o5, _, _, e5, c5, _⟩ := id D'
 obtain ⟨ep', D2⟩ := D'.dictAt
 obtain ⟨g, S2⟩ := S.store (Γ := Γ) (t := s.toks + 1) e1 hs' hi ⟨_, e5, by rw [c5.1]; exact aBd⟩ (ao' := .dci es' ep') (fun a2 e2 mono => by
  rwa [e1] at e2
  exact ⟨_, D2, hs.es (r.mono' mono) nd (mono _ _ r3)⟩)
 exact ⟨_, h ep', g, S2⟩
theorem aTx {e : Expr} {p : Pos} {Q : AF → Loc → AH → Prop} (h : Ev Γ fc d e ρ H (fun v H' => (match v with | .none | .int _ | .bool _ | .str _ => True | _ => False) ∧ Q .next ρ H'))
  (hi : ∀ L, interactive (fc.env L) = false := by intro; rfl) (hs : ∀ env, swapsWith e none p.line env = pure false := by intro; rfl) : Ex Γ fc d (.Expr e p) ρ H Q := Ex.mk fun A s φ L m R hk x =>
 wpAny_Expr (aAa (α := Unit) (E := noE) h R hk x fun v H' φ' y s' zz0 r g x' => by
  obtain ⟨hv, q⟩ := zz0
  have : PostF Γ fc L φ s Q .next s' := ⟨.next, ρ, H', φ', m, q, .next, g.toL, x'⟩
  cases r <;> first | exact this | exact hv.elim) (hi L) (hs _)
theorem aQw {A : Around} {s : Shared} {φ : Mp} {L : Addr} {m : Str → Option Value} {x : Str} {z : Value} {R : Value → Shared → Prop} (hk : fc.scope.kind = .function) (y : Here Γ fc φ H ρ L m s.heap) (v : VarAt fc L m s.heap x z) (h : R z s) : wpAny (model pw Γ.w) A (loadName (fc.env L) x) R noE s := by
 rcases v with ⟨hl, h1⟩ | ⟨hl, c, h3, h4⟩
 ·exact wpAny_loadName_local hk hl y.ns h1 h
 ·exact wpAny_loadName_cell hk hl h3 h4 h
theorem aW0 {x : Str} {p1 p : Pos} {op : Operator} {e : Expr} {a : Int} {Q : AF → Loc → AH → Prop} (hop : op = .Add ∨ op = .Sub) (hm : (x, some (.int a)) ∈ ρ)
  (h : Ev Γ fc d e ρ H (fun v H' => ∃ b ρ', v = .int b ∧ Put x (.int (if op = .Add then a + b else a - b)) ρ ρ' ∧ Q .next ρ' H')) : Ex Γ fc d (.AugAssign (.Name x p1) op e p) ρ H Q := Ex.mk fun A s φ L m R hk y => by
 obtain ⟨z, h1, h2⟩ := y.lr.val x _ hm
 cases h2 with
 | int _ t =>
  refine wpAny_AugAssign_Name (aQw hk y h1 ?_)
  refine aAa (α := Unit) (E := noE) h R hk y fun v H' φ' y s' zz0 r g x' => ?_
  obtain ⟨b, ρ', hv, hp, q⟩ := zz0
  subst hv
  cases r with
  | int _ u =>
   rcases hop with rfl | rfl
   ·rw [if_pos rfl] at hp
    exact PySem.P.iadd_int (aCs (s := { s' with toks := s'.toks + 1 }) hk x' hp (.int _ _) fun m' s'' g' x'' => ⟨.next, ρ', H', φ', m', q, .next, g.toL.trans (Go.tok.toL.trans g'), x''⟩)
   ·rw [if_neg (by decide)] at hp
    exact PySem.P.isub_int (aCs (s := { s' with toks := s'.toks + 1 }) hk x' hp (.int _ _) fun m' s'' g' x'' => ⟨.next, ρ', H', φ', m', q, .next, g.toL.trans (Go.tok.toL.trans g'), x''⟩)
end
end
section
section
variable {Γ : Cx} {fc : FC} {d : Nat} {ρ : Loc} {H : AH}
structure As (Γ : Cx) (fc : FC) (t : Expr) (u : AV) (ρ ρ' : Loc) : Prop where
 go : ∀ (A : Around) (s : Shared) (φ : Mp) (H : AH) (L : Addr) (m : Str → Option Value) (y : Value) (R : Unit → Shared → Prop), A.handled = none → fc.scope.kind = .function → Here Γ fc φ H ρ L m s.heap → VR φ s.heap u y →
  (∀ m' s', GoL fc L φ s φ s' → Here Γ fc φ H ρ' L m' s'.heap → R () s') → wpAny (model pw Γ.w) A (assign t (fc.env L) y) R noE s
theorem aAv {x : Str} {p : Pos} {u : AV} {ρ' : Loc} (h : Put x u ρ ρ') : As Γ fc (.Name x p) u ρ ρ' := As.mk fun A s φ H L m y R hh hk hx r k =>
 PySem.wpAny_assign_Name (aCs hk hx h r k)
inductive Puts : List Str → List AV → Loc → Loc → Prop
 | nil {ρ : Loc} : Puts [] [] ρ ρ
 | cons {x : Str} {v : AV} {xs : List Str} {vs : List AV} {ρ ρ₁ ρ₂ : Loc} : Put x v ρ ρ₁ → Puts xs vs ρ₁ ρ₂ → Puts (x :: xs) (v :: vs) ρ ρ₂
theorem Here.grow {φ : Mp} {L : Addr} {m : Str → Option Value} {s : Shared} (x : Here Γ fc φ H ρ L m s.heap) {h' : Heap} {t : Nat} (hk : ∀ b o, s.heap.get? b = some o → h'.get? b = some o) : GoL fc L φ s φ { s with heap := h', toks := t } ∧ Here Γ fc φ H ρ L m h' := by
 obtain ⟨g, S⟩ := x.st.grow (Γ := Γ) (s := s) (h' := h') (t := t) hk
 exact ⟨g.toL, x.go (s' := { s with heap := h', toks := t }) g S⟩
theorem aDx {h h' : Heap} (e : Heap.ExtBut h.objs.size h h') : ∀ b o, h.get? b = some o → h'.get? b = some o := fun b o q => e b o (Nat.ne_of_lt (Heap.lt_size q)) q
noncomputable def nameOf : Expr → Option Str
 | .Name x _ => some x
 | _ => none
theorem aLh {fs : List (Value → Sem Unit)} {xs : List Str} {vs : List AV} {ys : List Value} {A : Around} {φ : Mp} {L : Addr} {R : Unit → Shared → Prop} (hk : fc.scope.kind = .function) {ρ' : Loc} (hp : Puts xs vs ρ ρ')
  (hf : ∀ (i : Nat) (x : Str), xs[i]? = some x → ∃ f, fs[i]? = some f ∧ ∀ y (Q : Unit → Shared → Prop) s, wpAny (model pw Γ.w) A (storeName (fc.env L) x y) Q noE s → wpAny (model pw Γ.w) A (f y) Q noE s) (hl : fs.length = xs.length) :
  ∀ {s : Shared} {m : Str → Option Value}, Here Γ fc φ H ρ L m s.heap → VRs φ s.heap vs ys → (∀ m' s', GoL fc L φ s φ s' → Here Γ fc φ H ρ' L m' s'.heap → R () s') → wpAny (model pw Γ.w) A (assignInOrder fs ys) R noE s := by
 induction hp generalizing fs ys with
 | nil =>
  intro s m x r h
  cases fs with
  | nil => cases r; exact assignInOrder_nil (h m s GoL.refl x)
  | cons _ _ => cases hl
 | @cons x v xs vs ρ ρ₁ ρ₂ hp _ ih =>
  intro s m hx r h
  cases fs with
  | nil => cases hl
  | cons f fs =>
   cases r with
   | cons a r =>
    obtain ⟨f', e, hf0⟩ := hf 0 x rfl
    cases e
    refine assignInOrder_cons (hf0 _ _ _ (aCs hk hx hp a fun m' s' g x' => ?_))
    exact ih (fun i z hz => by simpa using hf (i + 1) z (by simpa using hz)) (by simpa using hl) x' (r.mono (fun _ _ _ e => e) fun a vs k e => g.keep a _ (fun q => by
     obtain ⟨_, _, o, h3, h4⟩ := hx.ow a q
     rwa [h3] at e; exact h4 _ _ rfl) e (fun zz0 => by
      obtain ⟨i, b, q⟩ := zz0
      obtain ⟨o', e', n⟩ := hx.st.there _ _ _ q
      rwa [e] at e'; exact n rfl)) fun m'' s'' g' x'' => h m'' s'' (g.trans g') x''
theorem Puts.len {xs : List Str} {vs : List AV} {ρ ρ' : Loc} (h : Puts xs vs ρ ρ') : vs.length = xs.length := by
 induction h with
 | nil => rfl
 | cons _ _ ih => simp [ih]
theorem aG9 {es : List Expr} {k : Nat} {p : Pos} {xs : List Str} {vs : List AV} {ρ' : Loc} (hp : Puts xs vs ρ ρ')
  (hn : ∀ env, (assignEach es env).length = xs.length) (hstar : ∀ env, (assignEach es env).findIdx? (·.1) = none)
  (hf : ∀ (env : Env) (i : Nat) (x : Str), xs[i]? = some x → ∃ q, ((assignEach es env).map (·.2))[i]? = some (assign (.Name x q) env)) : As Γ fc (.Tuple es k p) (.tup vs) ρ ρ' := As.mk fun A s φ H L m y R hh hk hx r h => by
 cases r
 rename_i a ys n q w
 have ht : IsTup s.heap a ys.toArray := ⟨_, q, rfl, _, rfl⟩
 have hl := w.length
 refine assign_Tuple_tuple hh ht (by rw [hn, List.size_toArray, hl, hp.len]) (hstar _) fun h' he => ?_
 obtain ⟨g, x'⟩ := hx.grow (h' := h') (t := s.toks) (aDx he)
 refine aLh (s := { s with heap := h', toks := s.toks }) hk hp (fun i x hxi => ?_) (by rw [List.length_map]; exact hn _) x' (w.mono (fun _ _ _ e => e) fun a vs k e => aDx he a _ e) fun m'' s'' g' x'' => h m'' s'' (g.trans g') x''
 obtain ⟨pq, e⟩ := hf (fc.env L) i x hxi
 exact ⟨_, e, fun y Q s hs => PySem.wpAny_assign_Name hs⟩
theorem aNi {es : List Expr} {k : Nat} {tp p : Pos} {e : Expr} {Q : AF → Loc → AH → Prop}
  (h : Ev Γ fc d e ρ H (fun v H' => ∃ ρ', As Γ fc (.Tuple es k tp) v ρ ρ' ∧ Q .next ρ' H'))
  (hs : ∀ env, swapsWithSole [.Tuple es k tp] e p.line env = pure false := by intro; rfl) (hw : ∀ env, swappedStores [.Tuple es k tp] e env = pure none := by intro; rfl) : Ex Γ fc d (.Assign [.Tuple es k tp] e p) ρ H Q := Ex.mk fun A s φ L m R hk x =>
 Assign_Tuple (aAa (α := Unit) (E := noE) h R hk x fun v H' φ' y s' ⟨ρ', ha, q⟩ r g x' =>
  ha.go A s' φ' H' L m y _ R.handled hk x' r fun m' s'' g' x'' => ⟨.next, ρ', H', φ', m', q, .next, g.toL.trans g', x''⟩) (hs _) (hw _)
theorem VRs.rev {φ : Mp} {h : Heap} {l : List AV} {xs : List Value} (r : VRs φ h l xs) : VRs φ h l.reverse xs.reverse := by
 induction l generalizing xs with
 | nil => cases r; exact .nil
 | cons v l ih => cases r with | cons a r => rw [List.reverse_cons, List.reverse_cons]; exact (ih r).append (.cons a .nil)
theorem aFm {es : List Expr} {k : Nat} {tp p : Pos} {e : Expr} {names : List Str} {Q : AF → Loc → AH → Prop}
  (h : Ev Γ fc d e ρ H (fun v H' => ∃ vs ρ', v = .tup vs ∧ Puts names.reverse vs.reverse ρ ρ' ∧ Q .next ρ' H'))
  (hs : ∀ env, swapsWithSole [.Tuple es k tp] e p.line env = pure false := by intro; rfl) (hw : ∀ L, swappedStores [.Tuple es k tp] e (fc.env L) = pure (some names) := by intro; rfl) : Ex Γ fc d (.Assign [.Tuple es k tp] e p) ρ H Q := Ex.mk fun A s φ L m R hk x =>
 Assign_Tuple_swapped (aAa (α := Unit) (E := noE) h R hk x fun v H' φ' y s' zz0 r g x' => by
  refine hZ fun GZ kZ => ?_
  obtain ⟨vs, ρ', hv, hp, q⟩ := zz0
  subst hv
  cases r
  refine kZ ?_
  rename_i a ys n q0 w
  have ht : IsTup s'.heap a ys.toArray := ⟨_, q0, rfl, _, rfl⟩
  have hl := w.length
  have hl2 := hp.len
  simp only [List.length_reverse] at hl2
  have : names.length = ys.toArray.size := by rw [List.size_toArray, hl, hl2]
  rw [this]
  refine unpackItems_tuple R.handled ht fun h' he => ?_
  obtain ⟨g1, x1⟩ := x'.grow (h' := h') (t := s'.toks) (aDx he)
  have wr : VRs φ' h' vs.reverse ys.reverse := by
   exact (w.mono (φ' := φ') (h' := h') (fun _ _ _ e => e) fun a vs k e => aDx he a _ e).rev
  refine aLh (s := { s' with heap := h', toks := s'.toks }) hk hp (fun i x hxi => ?_) (by simp) x1 wr fun m'' s'' g' x'' => ⟨.next, ρ', H', φ', m'', q, .next, g.toL.trans (g1.trans g'), x''⟩
  refine ⟨fun v => bindName (fc.env L) x v, ?_, fun y Q s hs => bindName_ hs⟩
  rw [List.getElem?_map, hxi]; rfl) (hs _) (hw _)
end
end
section
section
variable {Γ : Cx} {fc : FC} {d : Nat} {ρ : Loc} {H : AH}
def LoopQ (Q : AF → Loc → AH → Prop) (N : Loc → AH → Prop) : AF → Loc → AH → Prop
 | .next, ρ, H => N ρ H
 | .cont, ρ, H => N ρ H
 | .brk, ρ, H => Q .next ρ H
 | .ret v, ρ, H => Q (.ret v) ρ H
theorem aPl {t : Expr} {b : List Stmt} {p : Pos} {Q : AF → Loc → AH → Prop} (I : Nat → Loc → AH → Prop) (n : Nat) (h0 : I n ρ H)
  (step : ∀ n ρ H, I n ρ H → Tv Γ fc d t ρ H (fun c H' => (c = true → Exs Γ fc d b ρ H' (LoopQ Q fun ρ' H'' => ∃ m, m < n ∧ I m ρ' H'')) ∧ (c = false → Q .next ρ H'))) : Ex Γ fc d (.While t b [] p) ρ H Q := Ex.mk fun A s φ L m R hk x => by
 refine wpAny_While (codeAny_whileLoop (R := fun r s' => match r with | .ok f => PostF Γ fc L φ s Q f s' | .error e => cameBackBy (model pw Γ.w) A (fc.env L) noE e s')
  (fun n s' => ∃ ρ' H' φ' m', I n ρ' H' ∧ GoL fc L φ s φ' s' ∧ Here Γ fc φ' H' ρ' L m' s'.heap) ?_ n ⟨ρ, H, φ, m, h0, GoL.refl, x⟩)
 rintro n s₁ zw0
 refine hZ fun GZ kZ => ?_
 obtain ⟨ρ₁, H₁, φ₁, m₁, hI, g, x₁⟩ := zw0
 refine kZ ?_
 refine wpAny_mono (aDq (step n ρ₁ H₁ hI) R hk x₁ (R := fun b' s₂ => ∃ H₂ φ₂, (b' = true → Exs Γ fc d b ρ₁ H₂ (LoopQ Q fun ρ' H'' => ∃ m, m < n ∧ I m ρ' H'')) ∧ (b' = false → Q .next ρ₁ H₂) ∧ GoL fc L φ s φ₂ s₂ ∧ Here Γ fc φ₂ H₂ ρ₁ L m₁ s₂.heap)
  fun c H' φ' s' q g' x' => ⟨H', φ', q.1, q.2, g.trans g'.toL, x'⟩) (fun c s₂ ⟨H₂, φ₂, q1, q2, g₂, x₂⟩ => ?_) fun _ _ e => e.elim
 cases c with
 | false => exact wpAny_execs_nil ⟨.next, ρ₁, H₂, φ₂, m₁, q2 rfl, .next, g₂, x₂⟩
 | true =>
  refine wpAny_mono ((q1 rfl).go A s₂ φ₂ L m₁ R hk x₂) (fun f s₃ p => ?_) fun _ _ e => e.elim
  obtain ⟨a, ρ₃, H₃, φ₃, m₃, q3, fv, g₃, x₃⟩ := p
  cases fv with
  | next => obtain ⟨k, hk', hI'⟩ := q3; exact ⟨k, hk', ρ₃, H₃, φ₃, m₃, hI', g₂.trans g₃, x₃⟩
  | cont => obtain ⟨k, hk', hI'⟩ := q3; exact ⟨k, hk', ρ₃, H₃, φ₃, m₃, hI', g₂.trans g₃, x₃⟩
  | brk => exact ⟨.next, ρ₃, H₃, φ₃, m₃, q3, .next, g₂.trans g₃, x₃⟩
  | ret r => exact ⟨.ret _, ρ₃, H₃, φ₃, m₃, q3, .ret r, g₂.trans g₃, x₃⟩
def ExtG (a : Addr) (s s' : Shared) : Prop := (∃ h' t', s' = { s with heap := h', toks := t' }) ∧ ∀ b o, b ≠ a → s.heap.get? b = some o → s'.heap.get? b = some o
theorem ExtG.trans {a : Addr} {s s' s'' : Shared} (x : ExtG a s s') (y : ExtG a s' s'') : ExtG a s s'' := by
 obtain ⟨⟨h1, t1, rfl⟩, k1⟩ := x
 obtain ⟨⟨h2, t2, rfl⟩, k2⟩ := y
 exact ⟨⟨h2, t2, rfl⟩, fun b o n e => k2 b o n (k1 b o n e)⟩
theorem St.ext {φ : Mp} {s s' : Shared} {a : Addr} (S : St Γ.w Γ.h₀ φ H s.heap) (e : ExtG a s s') (hf : ¬ foot φ a) (h0 : Γ.h₀.get? a = none) (ht : ∀ o, s.heap.get? a = some o → o.cls ≠ .type "tuple") : TK s.heap s'.heap ∧ St Γ.w Γ.h₀ φ H s'.heap := by
 have nf : ∀ {i b c}, φ i b = some c → c ≠ a := fun q e => hf ⟨_, _, e ▸ q⟩
 have tk : TK s.heap s'.heap := fun b vs n q => e.2 b _ (fun z => by subst z; exact ht _ q rfl) q
 refine ⟨tk, fun b o q => e.2 b o (fun z => by subst z; rwa [h0] at q) (S.base b o q), S.above, fun i b c q => ?_, S.inj, S.free, fun i o q => ?_⟩
 ·obtain ⟨o, h1, h2⟩ := S.there _ _ _ q
  exact ⟨o, e.2 c o (nf q) h1, h2⟩
 ·obtain ⟨c, h1, h2⟩ := S.live i o q
  exact ⟨c, h1, h2.move h1 (fun _ _ _ e => e) tk fun b' c' o' e1 e2 => e.2 c' o' (nf e1) e2⟩
structure Proto (Γ : Cx) (d : Nat) (tgt : Expr) (a : Addr) (items : List AV) (Keep : AH → Prop) (φ' : Mp) (h₂ : Heap) (J : Nat → Heap → Prop) : Prop where
 mov : ∀ k h h', J k h → (∀ o, h.get? a = some o → h'.get? a = some o) → J k h'
 ali : ∀ k h, J k h → ∃ o, h.get? a = some o ∧ o.cls ≠ .type "tuple"
 item : ∀ (A : Around) (s : Shared) (φ : Mp) (H : AH) (k : Nat) (u : AV), Room A d → Keep H → St Γ.w Γ.h₀ φ H s.heap → (∀ i b a, φ' i b = some a → φ i b = some a) → TK h₂ s.heap → ¬ foot φ a → J k s.heap → items[k]? = some u →
  wpAny (model pw Γ.w) A (pyNext (.ref a)) (fun r s₁ => ∃ y, r = some y ∧ wpAny (model pw Γ.w) A (letOwnedTupleGo tgt (.ref a) y) (fun _ s₂ => ExtG a s s₂ ∧ J (k + 1) s₂.heap ∧ VR φ s₂.heap u y) noE s₁) noE s
 fin : ∀ (A : Around) (s : Shared) (φ : Mp) (H : AH), Room A d → Keep H → St Γ.w Γ.h₀ φ H s.heap → (∀ i b a, φ' i b = some a → φ i b = some a) → TK h₂ s.heap → ¬ foot φ a → J items.length s.heap →
  wpAny (model pw Γ.w) A (pyNext (.ref a)) (fun r s₁ => r = none ∧ ExtG a s s₁) noE s
structure It (Γ : Cx) (fc : FC) (d : Nat) (e tgt : Expr) (ρ : Loc) (H : AH) (Q : List AV → (AH → Prop) → AH → Prop) : Prop where
 go : ∀ (A : Around) (s : Shared) (φ : Mp) (L : Addr) (m : Str → Option Value), Room A d → fc.scope.kind = .function → Here Γ fc φ H ρ L m s.heap →
  wpAny (model pw Γ.w) A (eval e (fc.env L)) (fun x s₁ => wpAny (model pw Γ.w) A (pyIter x) (fun it s₂ => ∃ a items Keep H' φ' J, it = .ref a ∧ Q items Keep H' ∧ Go φ s φ' s₂ ∧ St Γ.w Γ.h₀ φ' H' s₂.heap ∧ s.heap.get? a = none ∧ ¬ foot φ' a ∧ J 0 s₂.heap ∧
   Proto Γ d tgt a items Keep φ' s₂.heap J) noE s₁) noE s
theorem aW1 {tgt e : Expr} {b : List Stmt} {p : Pos} {Q : AF → Loc → AH → Prop} (I : Nat → Loc → AH → Prop)
  (h : It Γ fc d e tgt ρ H (fun items Keep H' => I 0 ρ H' ∧ (∀ k ρ H, I k ρ H → Keep H) ∧
   (∀ k ρ₁ H₁ u, I k ρ₁ H₁ → items[k]? = some u → ∃ ρ₂, As Γ fc tgt u ρ₁ ρ₂ ∧ Exs Γ fc d b ρ₂ H₁ (LoopQ Q fun ρ' H'' => I (k + 1) ρ' H'')) ∧
   (∀ ρ₁ H₁, I items.length ρ₁ H₁ → Q .next ρ₁ H₁)))
  (hs : ∀ env x, foldedSetIterable e env x = pure x := by intro _ _; rfl) : Ex Γ fc d (.For tgt e b [] p) ρ H Q := Ex.mk fun A s φ L m R hk x => by
 refine wpAny_For (aAf (h.go A s φ L m R hk x) fun v s₁ h₁ => aAf h₁ fun it s₂ zz0 => ?_) (hs _)
 obtain ⟨a, items, Keep, H', φ', J, hit, ⟨hI, hK, hst, hfin⟩, g, S, ha, hfa, hJ, P⟩ := zz0
 subst hit
 have aL : ¬ own fc L a := fun o => by
  obtain ⟨_, _, o, e1, _⟩ := x.ow a o
  rwa [ha] at e1
 have a0 : Γ.h₀.get? a = none := by
  cases q : Γ.h₀.get? a with
  | none => rfl
  | some o => rwa [x.st.base _ _ q] at ha
 have x' := x.go g S
 refine codeAny_forLoop_any (R := fun r s' => match r with | .ok f => PostF Γ fc L φ s Q f s' | .error e => cameBackBy (model pw Γ.w) A (fc.env L) noE e s')
  (fun n s' => ∃ k ρ₁ H₁ φ₁ m₁, n = items.length + 1 - k ∧ k ≤ items.length ∧ I k ρ₁ H₁ ∧ GoL fc L φ s φ₁ s' ∧ (∀ i b a, φ' i b = some a → φ₁ i b = some a) ∧ TK s₂.heap s'.heap ∧ ¬ foot φ₁ a ∧ J k s'.heap ∧ Here Γ fc φ₁ H₁ ρ₁ L m₁ s'.heap)
  ?_ (items.length + 1) ⟨0, ρ, H', φ', m, by omega, by omega, hI, g.toL, fun _ _ _ e => e, fun _ _ _ e => e, hfa, hJ, x'⟩
 rintro n s₁ zw0
 obtain ⟨k, ρ₁, H₁, φ₁, m₁, rfl, hk1, hI1, g1, hx1, ht1, hf1, hJ1, x1⟩ := zw0
 obtain ⟨oa, eoa, noa⟩ := P.ali _ _ hJ1
 have notT : ∀ o, s₁.heap.get? a = some o → o.cls ≠ .type "tuple" := fun o e => by rwa [eoa] at e; exact noa
 have stepG : ∀ s', ExtG a s₁ s' → GoL fc L φ s φ₁ s' ∧ Here Γ fc φ₁ H₁ ρ₁ L m₁ s'.heap ∧ TK s₁.heap s'.heap := fun s' e => by
  obtain ⟨tk, S'⟩ := x1.st.ext e hf1 a0 notT
  have ko : ∀ b o, own fc L b → s₁.heap.get? b = some o → s'.heap.get? b = some o := fun b o ob q => e.2 b o (fun z => aL (z ▸ ob)) q
  refine ⟨⟨?_, fun c q => ?_, fun c o hc q nq => e.2 c o (fun z => by subst z; rwa [ha] at q) (g1.keep c o hc q nq), g1.ext, g1.new⟩, ⟨Ns.move x1.ns fun o q => ko L o (.inl rfl) q, fun b ob => ?_, x1.ap, x1.nL, x1.lr.move ko fun v y r => r.mono (fun _ _ _ e => e) tk, S'⟩, tk⟩
  ·skip
   obtain ⟨h1, t1, rfl⟩ := g1.rest
   obtain ⟨h2, t2, rfl⟩ := e.1
   exact ⟨h2, t2, rfl⟩
  ·by_cases z : c = a
   ·subst z; exact ha
   ·refine g1.al c ?_
    cases q' : s₁.heap.get? c with
    | none => rfl
    | some o => rwa [e.2 c o z q'] at q
  ·refine hZ fun GZ kZ => ?_
   obtain ⟨k1, k2, o, k3, k4⟩ := x1.ow b ob
   refine kZ ?_
   exact ⟨k1, k2, o, ko b o ob k3, k4⟩
 rcases Nat.lt_or_ge k items.length with hlt | hge
 ·obtain ⟨u, hu⟩ : ∃ u, items[k]? = some u := ⟨_, List.getElem?_eq_getElem hlt⟩
  refine wpAny_mono (P.item A s₁ φ₁ H₁ k u R (hK _ _ _ hI1) x1.st hx1 ht1 hf1 hJ1 hu) (fun r s₃ zz0 => ?_) fun _ _ e => e.elim
  obtain ⟨y, hr, hw⟩ := zz0
  subst hr
  refine wpAny_mono hw (fun _ s₄ zz0 => ?_) fun _ _ e => e.elim
  refine hZ fun GZ kZ => ?_
  obtain ⟨e4, hJ4, r4⟩ := zz0
  obtain ⟨g4, x4, tk4⟩ := stepG s₄ e4
  obtain ⟨ρ₂, hAs, hb⟩ := hst k ρ₁ H₁ u hI1 hu
  obtain ⟨o4, e4a, n4a⟩ := P.ali _ _ hJ4
  refine kZ ?_
  refine wpAny_mono (hAs.go A s₄ φ₁ H₁ L m₁ y (fun _ s5 => ∃ m5, GoL fc L φ₁ s₄ φ₁ s5 ∧ Here Γ fc φ₁ H₁ ρ₂ L m5 s5.heap) R.handled hk x4 r4 fun m5 s5 g5 x5 => ⟨m5, g5, x5⟩) (fun _ s5 zz0 => ?_) fun _ _ e => e.elim
  obtain ⟨m5, g5, x5⟩ := zz0
  refine wpAny_mono (hb.go A s5 φ₁ L m5 R hk x5) (fun f s6 zz0 => ?_) fun _ _ e => e.elim
  obtain ⟨af, ρ6, H6, φ6, m6, q6, fv, g6, x6⟩ := zz0
  have g56 := g5.trans g6
  have nf6 : ¬ foot φ6 a := by
   rintro ⟨i, b, q⟩
   rcases g56.new _ _ _ q with q | q
   ·exact hf1 ⟨i, b, q⟩
   ·rwa [e4a] at q
  have goal : ∀ N : Loc → AH → Prop, True := fun _ => trivial
  have nxt : I (k + 1) ρ6 H6 → ∃ m, m < items.length + 1 - k ∧ ∃ k' ρ₁ H₁ φ₁ m₁, m = items.length + 1 - k' ∧ k' ≤ items.length ∧ I k' ρ₁ H₁ ∧ GoL fc L φ s φ₁ s6 ∧ (∀ i b a, φ' i b = some a → φ₁ i b = some a) ∧ TK s₂.heap s6.heap ∧ ¬ foot φ₁ a ∧ J k' s6.heap ∧ Here Γ fc φ₁ H₁ ρ₁ L m₁ s6.heap := fun hI6 => by
   refine ⟨items.length + 1 - (k + 1), by exact oz283 hlt, k + 1, ρ6, H6, φ6, m6, rfl, by exact oz284 hlt, hI6, g4.trans g56, fun i b c e => g56.ext _ _ _ (hx1 _ _ _ e), fun b vs n e => ?_, nf6, P.mov _ _ _ hJ4 fun o e => g56.keep a o aL e hf1, x6⟩
   have e1 := tk4 _ _ _ (ht1 _ _ _ e)
   refine g56.keep b _ (fun z => ?_) e1 (fun ⟨i, c, q⟩ => ?_)
   ·obtain ⟨_, _, o, k3, k4⟩ := x4.ow b z
    rwa [e1] at k3; exact k4 _ _ rfl
   ·obtain ⟨o', e', n'⟩ := x4.st.there _ _ _ q
    rwa [e1] at e'; exact n' rfl
  cases fv with
  | next => exact nxt q6
  | cont => exact nxt q6
  | brk => exact ⟨.next, ρ6, H6, φ6, m6, q6, .next, g4.trans g56, x6⟩
  | ret r => exact ⟨.ret _, ρ6, H6, φ6, m6, q6, .ret r, g4.trans g56, x6⟩
 ·have hke : k = items.length := by exact oz285 hk1 hge
  subst hke
  refine wpAny_mono (P.fin A s₁ φ₁ H₁ R (hK _ _ _ hI1) x1.st hx1 ht1 hf1 hJ1) (fun r s₃ ⟨hr, e3⟩ => ?_) fun _ _ e => e.elim
  subst hr
  obtain ⟨g4, x4, tk4⟩ := stepG s₃ e3
  exact wpAny_execs_nil ⟨.next, ρ₁, H₁, φ₁, m₁, hfin _ _ hI1, .next, g4, x4⟩
theorem aEl {x : Str} {p : Pos} {it v : Value} {w : World} {A : Around} {s : Shared} {Q : Unit → Shared → Prop} (h : Q () s) : wpAny (model pw w) A (letOwnedTupleGo (.Name x p) it v) Q noE s := wpAny_pure h
theorem aBf {e : Expr} {x : Str} {p : Pos} {Q : List AV → (AH → Prop) → AH → Prop}
  (h : Ev Γ fc d e ρ H (fun v H' => ∃ i l, v = .ref i ∧ H' i = .live (.lst l) ∧ Q l (fun H => H i = .live (.lst l)) H')) : It Γ fc d e (.Name x p) ρ H Q := It.mk fun A s φ L m R hk x =>
 aAa (α := Unit) (E := noE) h R hk x fun v H' φ' y s' zz0 r g x' => by
  refine hZ fun GZ kZ => ?_
  obtain ⟨i, l, hv, hi, q⟩ := zz0
  subst hv
  cases r
  refine kZ ?_
  rename_i a ea
  refine hZ fun GZ kZ => ?_
  obtain ⟨a1, f1, vs, n', q1, w1⟩ := x'.st.live _ _ hi
  rwa [ea] at f1
  have hl : s'.heap.IsList a vs.toArray := ⟨_, q1, rfl, _, rfl⟩
  refine kZ ?_
  refine wpAny_pyIter_list hl ?_
  obtain ⟨g2, S2⟩ := x'.st.pushed (Γ := Γ) (s := s') { cls := .type "list_iterator", data := .fields #[.ref a, .int 0 0] } (t := s'.toks)
  have fr : s'.heap.get? s'.heap.objs.size = none := aAs
  have nfoot : ¬ foot φ' s'.heap.objs.size := fun ⟨i, b, q⟩ => by
   obtain ⟨o, e, _⟩ := x'.st.there _ _ _ q
   rwa [fr] at e
  refine ⟨_, l, _, H', φ', fun k h => h.IsListIter s'.heap.objs.size a k, rfl, q, g.trans g2, S2, g.al _ fr, nfoot, ⟨_, Heap.get?_push_size _ rfl, rfl, rfl⟩, ⟨?_, ?_, ?_, ?_⟩⟩
  ·rintro k h h' ⟨o, e1, e2, e3⟩ hh
   exact ⟨o, hh o e1, e2, e3⟩
  ·rintro k h ⟨o, e1, e2, e3⟩
   exact ⟨o, e1, by rw [e2]; decide⟩
  ·intro A s1 φ1 H1 k u R1 hK S1 hx ht hf hJ hu
   refine hZ fun GZ kZ => ?_
   obtain ⟨b, fb, us, n2, q2, w2⟩ := S1.live _ _ hK
   have eb := hx _ _ _ ea
   rwa [eb] at fb
   have hl2 : s1.heap.IsList a us.toArray := ⟨_, q2, rfl, _, rfl⟩
   obtain ⟨z, hz, rz⟩ := w2.get hu
   refine kZ ?_
   refine wpAny_pyNext_list_item hJ hl2 (x := z) (by simpa using hz) fun h' hj' hs' => ⟨z, rfl, aEl ⟨⟨⟨h', s1.toks, rfl⟩, hs'.extBut⟩, hj', rz.mono (fun _ _ _ e => e) fun b vs n e => ?_⟩⟩
   refine hs'.extBut b _ (fun q => ?_) e
   refine hZ fun GZ kZ => ?_
   subst q
   obtain ⟨o, e1, e2, _⟩ := hJ
   rwa [e] at e1
   refine kZ ?_
   exact absurd (show Value.type "tuple" = Value.type "list_iterator" from e2) (by decide)
  ·intro A s1 φ1 H1 R1 hK S1 hx ht hf hJ
   refine hZ fun GZ kZ => ?_
   obtain ⟨b, fb, us, n2, q2, w2⟩ := S1.live _ _ hK
   have eb := hx _ _ _ ea
   rwa [eb] at fb
   have hl2 : s1.heap.IsList a us.toArray := ⟨_, q2, rfl, _, rfl⟩
   refine kZ ?_
   exact wpAny_pyNext_list_end R1.handled hJ hl2 (by have := w2.length; simp [this]) fun h' he => ⟨rfl, ⟨h', s1.toks, rfl⟩, he⟩
theorem aW3 {e : Expr} {x : Str} {p : Pos} {Q : List AV → (AH → Prop) → AH → Prop}
  (h : Ev Γ fc d e ρ H (fun v H' => ∃ l, v = .tup l ∧ Q l (fun _ => True) H')) : It Γ fc d e (.Name x p) ρ H Q := It.mk fun A s φ L m R hk x =>
 aAa (α := Unit) (E := noE) h R hk x fun v H' φ' y s' zz0 r g x' => by
  refine hZ fun GZ kZ => ?_
  obtain ⟨l, hv, q⟩ := zz0
  subst hv
  cases r
  refine kZ ?_
  rename_i a vs n q1 w1
  have hl : IsTup s'.heap a vs.toArray := ⟨_, q1, rfl, _, rfl⟩
  refine iter_tuple hl ?_
  obtain ⟨g2, S2⟩ := x'.st.pushed (Γ := Γ) (s := s') { cls := .type "tuple_iterator", data := .fields #[.ref a, .int 0 0] } (t := s'.toks)
  have fr : s'.heap.get? s'.heap.objs.size = none := aAs
  have nfoot : ¬ foot φ' s'.heap.objs.size := fun ⟨i, b, q⟩ => by
   obtain ⟨o, e, _⟩ := x'.st.there _ _ _ q
   rwa [fr] at e
  refine ⟨_, l, _, H', φ', fun k h => IsTupIter h s'.heap.objs.size a k, rfl, q, g.trans g2, S2, g.al _ fr, nfoot, ⟨_, Heap.get?_push_size _ rfl, rfl, rfl⟩, ⟨?_, ?_, ?_, ?_⟩⟩
  ·rintro k h h' ⟨o, e1, e2, e3⟩ hh
   exact ⟨o, hh o e1, e2, e3⟩
  ·rintro k h ⟨o, e1, e2, e3⟩
   exact ⟨o, e1, by rw [e2]; decide⟩
  ·intro A s1 φ1 H1 k u R1 hK S1 hx ht hf hJ hu
   have e1 := ht _ _ _ (Heap.get?_push_of_some _ q1)
   have hl2 : IsTup s1.heap a vs.toArray := ⟨_, e1, rfl, _, rfl⟩
   obtain ⟨z, hz, rz⟩ := w1.get hu
   have tk : TK s'.heap s1.heap := fun b vs n e => ht b vs n (Heap.get?_push_of_some _ e)
   refine next_tuple_item hJ hl2 (x := z) (by simpa using hz) fun h' hj' hs' => ⟨z, rfl, aEl ⟨⟨⟨h', s1.toks, rfl⟩, hs'.extBut⟩, hj', rz.mono hx fun b vs n e => ?_⟩⟩
   have e2 := tk b vs n e
   refine hs'.extBut b _ (fun q => ?_) e2
   subst q
   obtain ⟨o, e3, e4, _⟩ := hJ
   rwa [e2] at e3
   exact absurd (show Value.type "tuple" = Value.type "tuple_iterator" from e4) (by decide)
  ·intro A s1 φ1 H1 R1 hK S1 hx ht hf hJ
   have e1 := ht _ _ _ (Heap.get?_push_of_some _ q1)
   have hl2 : IsTup s1.heap a vs.toArray := ⟨_, e1, rfl, _, rfl⟩
   exact next_tuple_end R1.handled hJ hl2 (by have := w1.length; simp [this]) fun h' he => ⟨rfl, ⟨h', s1.toks, rfl⟩, he⟩
end
end
section
section
variable {Γ : Cx} {fc : FC} {d : Nat} {ρ : Loc} {H : AH}
theorem VRs.one {φ : Mp} {h : Heap} {v : AV} {xs : List Value} (r : VRs φ h [v] xs) : ∃ x, xs = [x] ∧ VR φ h v x := by
 cases r with | cons a r => cases r; exact ⟨_, rfl, a⟩
theorem VRs.two {φ : Mp} {h : Heap} {v u : AV} {xs : List Value} (r : VRs φ h [v, u] xs) : ∃ x y, xs = [x, y] ∧ VR φ h v x ∧ VR φ h u y := by
 cases r with | cons a r => obtain ⟨y, rfl, b⟩ := r.one; exact ⟨_, y, rfl, a, b⟩
theorem VRs.three {φ : Mp} {h : Heap} {v u w : AV} {xs : List Value} (r : VRs φ h [v, u, w] xs) : ∃ x y z, xs = [x, y, z] ∧ VR φ h v x ∧ VR φ h u y ∧ VR φ h w z := by
 cases r with | cons a r => obtain ⟨y, z, rfl, b, c⟩ := r.two; exact ⟨_, y, z, rfl, a, b, c⟩
theorem VR.refI {φ : Mp} {h : Heap} {i : Id} {x : Value} (r : VR φ h (.ref i) x) : ∃ a, x = .ref a ∧ φ i false = some a := by
 cases r with | ref e => exact ⟨_, rfl, e⟩
theorem VR.intI {φ : Mp} {h : Heap} {i : Int} {x : Value} (r : VR φ h (.int i) x) : ∃ t, x = .int i t := by
 cases r with | int _ t => exact ⟨t, rfl⟩
theorem VR.strI {φ : Mp} {h : Heap} {i : Str} {x : Value} (r : VR φ h (.str i) x) : ∃ t, x = .str i t := by
 cases r with | str _ t => exact ⟨t, rfl⟩
theorem VR.tupI {φ : Mp} {h : Heap} {l : List AV} {x : Value} (r : VR φ h (.tup l) x) : ∃ a vs n, x = .ref a ∧ h.get? a = some (tupO vs.toArray n) ∧ VRs φ h l vs := by
 cases r with | tup e r => exact ⟨_, _, _, rfl, e, r⟩
theorem aA5 {i : Id} {l : List AV} {v : AV} {Q : AV → AH → Prop} (hi : H i = .live (.lst l)) (hz : l.length ≤ 1000000) (h : Q .none (upd H i (.live (.lst (l ++ [v]))))) : Cl Γ d (.builtin "list.append") [.ref i, v] H Q := Cl.mk fun A s φ xs R S r => by
 refine hZ fun GZ kZ => ?_
 obtain ⟨_, y, rfl, r1, r2⟩ := r.two
 obtain ⟨c, rfl, e1⟩ := r1.refI
 obtain ⟨a1, f1, vs, n, q1, w1⟩ := S.live _ _ hi
 rwa [e1] at f1
 refine kZ ?_
 refine append_at q1 (fun h' hs' e' => ?_) (by rw [List.size_toArray, w1.length, sizeLine_eq]; omega)
 rw [List.push_toArray] at e'
 obtain ⟨g, S2⟩ := S.store (Γ := Γ) (t := s.toks) e1 hs' hi ⟨_, e', aBe⟩ (ao' := .lst (l ++ [v])) fun a2 e2 mono => by
  rwa [e1] at e2
  exact ⟨vs ++ [y], n + 1, e', (w1.mono' mono).append (.cons (mono _ _ r2) .nil)⟩
 exact ⟨.none, _, φ, h, .none, g, S2⟩
theorem aMi (vs : List Value) : vs.toArray.eraseIdxIfInBounds (vs.toArray.size - 1) = vs.dropLast.toArray := by
 rcases List.eq_nil_or_concat vs with rfl | ⟨l, x, rfl⟩
 ·rfl
 ·unfold Array.eraseIdxIfInBounds
  rw [dif_pos (by simp)]
  apply Array.toList_inj.mp
  simp [List.eraseIdx_append_of_length_le]
theorem VRs.dropLast {φ : Mp} {h : Heap} {l : List AV} {xs : List Value} (r : VRs φ h l xs) : VRs φ h l.dropLast xs.dropLast := by
 induction l generalizing xs with
 | nil => cases r; exact .nil
 | cons v l ih =>
  cases r with
  | cons a r =>
   cases l with
   | nil => cases r; exact .nil
   | cons u l =>
    cases r with
    | cons b r => exact .cons a (ih (.cons b r))
theorem aVp {i : Id} {l : List AV} {v : AV} {Q : AV → AH → Prop} (hi : H i = .live (.lst l)) (hv : l.getLast? = some v) (hz : l.length ≤ 1000000) (h : Q v (upd H i (.live (.lst l.dropLast)))) : Cl Γ d (.builtin "list.pop") [.ref i] H Q := Cl.mk fun A s φ xs R S r => by
 refine hZ fun GZ kZ => ?_
 obtain ⟨_, rfl, r1⟩ := r.one
 obtain ⟨c, rfl, e1⟩ := r1.refI
 obtain ⟨a1, f1, vs, n, q1, w1⟩ := S.live _ _ hi
 rwa [e1] at f1
 rw [List.getLast?_eq_getElem?] at hv
 obtain ⟨y, hy, ry⟩ := w1.get hv
 have ll := w1.length
 obtain ⟨g, S2⟩ := S.lst (t := s.toks) (f := fun xs => xs.eraseIdxIfInBounds (vs.toArray.size - 1)) hi e1 q1 (aMi vs) w1.dropLast
 have tp := S.tup g
 refine kZ ?_
 refine call_meets PySem.F.slot_list_pop ⟨_, q1, rfl⟩ PySem.F.entry_list_pop (PySem.F.args_list_pop_1 _) (MeetsSeq.list_pop_last c vs.toArray n y (by rw [List.size_toArray, ll]; simpa using hy) (by rw [List.size_toArray, ll, sizeLine_eq]; omega)) ⟨q1, ?_⟩
 exact ⟨v, _, φ, h, ry.mono (fun _ _ _ e => e) tp, g, S2⟩
theorem aMq (vs : List Value) (n : Nat) (y : Value) (h : n ≤ vs.length) : (fun xs : Array Value => have k := if ((n : Nat) : Int) < 0 then (((n : Nat) : Int) + (xs.size : Int)).toNat else min ((n : Nat) : Int).toNat xs.size; (xs.extract 0 k).push y ++ xs.extract k) vs.toArray = (vs.take n ++ y :: vs.drop n).toArray := by
 dsimp only
 rw [if_neg (by omega)]
 have : min ((n : Nat) : Int).toNat vs.toArray.size = n := by simp; exact oz286 h
 rw [this]
 apply Array.toList_inj.mp
 simp [List.take_of_length_le]
theorem VRs.take {φ : Mp} {h : Heap} {l : List AV} {xs : List Value} (r : VRs φ h l xs) (n : Nat) : VRs φ h (l.take n) (xs.take n) ∧ VRs φ h (l.drop n) (xs.drop n) := by
 induction l generalizing xs n with
 | nil => cases r; simp; exact .nil
 | cons v l ih =>
  cases r with
  | cons a r =>
   cases n with
   | zero => exact ⟨.nil, .cons a r⟩
   | succ n => exact ⟨.cons a (ih r n).1, (ih r n).2⟩
theorem aMw {i : Id} {l : List AV} {k : Int} {n : Nat} {v : AV} {Q : AV → AH → Prop} (hi : H i = .live (.lst l)) (hk : k = n) (hn : n ≤ l.length) (hz : l.length ≤ 1000000) (h : Q .none (upd H i (.live (.lst (l.take n ++ v :: l.drop n))))) :
  Cl Γ d (.builtin "list.insert") [.ref i, .int k, v] H Q := Cl.mk fun A s φ xs R S r => by
 refine hZ fun GZ kZ => ?_
 obtain ⟨_, _, y, rfl, r1, r2, r3⟩ := r.three
 obtain ⟨c, rfl, e1⟩ := r1.refI
 obtain ⟨t, rfl⟩ := r2.intI
 obtain ⟨a1, f1, vs, m, q1, w1⟩ := S.live _ _ hi
 rwa [e1] at f1
 have ll := w1.length
 have hfit : ¬(!Builtin.List.listFitsIndex k) = true := by
  have := fitsIndex_of (k := k) (by omega) (by exact zi [l.length, n] [k] (.h 1 (.w 0) (.u 1) (.h 1 (.u 1) (.u 0) (.h 1 (.u 0) (.n 1000000) .e))) (.a (.w 0) (.n 1)) (.n (2^63)) rfl (Int.le_of_eq hk) (zcl hn) (zcl hz))
  rw [this]; decide
 have hf := aMq vs n y (by exact zn [l.length, vs.length, n] (.h 1 (.v 2) (.v 0) (.h 1 (.v 0) (.v 1) .e)) (.v 2) (.v 1) rfl hn (Nat.le_of_eq ll.symm))
 rw [← hk] at hf
 obtain ⟨g, S2⟩ := S.lst (t := s.toks) (f := fun xs : Array Value => have k := if k < 0 then (k + (xs.size : Int)).toNat else min k.toNat xs.size; (xs.extract 0 k).push y ++ xs.extract k) hi e1 q1 hf ((w1.take n).1.append (.cons r3 (w1.take n).2))
 refine kZ ?_
 exact call_meets PySem.F.slot_list_insert ⟨_, q1, rfl⟩ PySem.F.entry_list_insert (PySem.F.args_list_insert_3 _ _ _) (AutoSeq1.list_insert_list_int_val_1 c vs.toArray m k t y hfit (by rw [List.size_toArray, ll, sizeLine_eq]; omega)) ⟨q1, ⟨.none, _, φ, h, .none, g, S2⟩⟩
theorem aPe {i : Id} {l : List AV} {x : Int} {j : Nat} {Q : AV → AH → Prop} (hi : H i = .live (.lst l)) (ha : allInt l = true) (hj : l[j]? = some (.int x)) (hno : ∀ m, m < j → ∀ v, l[m]? = some v → isInt x v = false) (hz : l.length ≤ 1000000) (h : Q (.int j) H) :
  Cl Γ d (.builtin "list.index") [.ref i, .int x] H Q := Cl.mk fun A s φ xs R S r => by
 refine hZ fun GZ kZ => ?_
 obtain ⟨_, _, rfl, r1, r2⟩ := r.two
 obtain ⟨c, rfl, e1⟩ := r1.refI
 obtain ⟨t, rfl⟩ := r2.intI
 obtain ⟨a1, f1, vs, m, q1, w1⟩ := S.live _ _ hi
 rwa [e1] at f1
 have ll := w1.length
 have key : ∀ (l : List AV) (vs : List Value), VRs φ s.heap l vs → allInt l = true → ∀ (k : Nat) (y : Value), vs[k]? = some y → ∃ v, l[k]? = some v ∧ vInt x y = isInt x v := by
  intro l
  induction l with
  | nil => intro vs r _ k y hy; cases r; cases hy
  | cons v l ih =>
   intro vs r ha k y hy
   cases r with
   | cons a r =>
    simp only [allInt, List.all_cons, Bool.and_eq_true] at ha
    cases k with
    | zero =>
     cases hy
     refine ⟨v, rfl, ?_⟩
     cases a <;> first | exact absurd ha.1 Bool.false_ne_true | rfl
    | succ k => exact ih _ r ha.2 k y hy
 obtain ⟨yj, hyj, ryj⟩ := w1.get hj
 have hlt : j < vs.length := (List.getElem?_eq_some_iff.mp hyj).1
 refine kZ ?_
 refine call_meets PySem.F.slot_list_index ⟨_, q1, rfl⟩ PySem.F.entry_list_index (PySem.F.args_list_index_2 _ _) (list_indexAt c vs.toArray m none #[] (.int x t) (vInt x) j (by simpa using hlt) (by exact zi [j, vs.length, l.length] [] (.h 1 (.u 2) (.n 1000000) (.h 1 (.u 1) (.u 2) (.h 1 (.c (.a (.v 0) (.n 1))) (.u 1) .e))) (.a (.u 0) (.n 1)) (.s (.n (2^63)) (.n 1)) rfl (zcl hz) (zcl (Nat.le_of_eq ll)) (zcl hlt)) ?_ ?_) ⟨q1, aGy w1 ha x t, ?_⟩
 ·refine hZ fun GZ kZ => ?_
  obtain ⟨v, h1, h2⟩ := key l vs w1 ha j yj hyj
  rwa [hj] at h1
  have : vs.toArray[j]'(by simpa using hlt) = yj := by
   have := List.getElem?_eq_some_iff.mp hyj
   simpa using this.2
  refine kZ ?_
  rw [this, h2]; simp [isInt]
 ·intro k hk hkj
  have hk' : k < vs.length := by simpa using hk
  refine hZ fun GZ kZ => ?_
  obtain ⟨v, h1, h2⟩ := key l vs w1 ha k vs[k] (by rw [List.getElem?_eq_getElem hk'])
  have : vs.toArray[k]'hk = vs[k] := by simp
  refine kZ ?_
  rw [this, h2]
  exact hno k hkj v h1
 ·exact aAe h (.int _ _) S
theorem aLr {i : Id} {es : List (Str × AV)} {k : Str} {u v : AV} {Q : AV → AH → Prop} (hi : H i = .live (.dcs es)) (hm : (k, v) ∈ es) (h : Q v H) : Cl Γ d (.builtin "dict.get") [.ref i, .str k, u] H Q := Cl.mk fun A s φ xs R S r => by
 refine hZ fun GZ kZ => ?_
 obtain ⟨_, _, y, rfl, r1, r2, r3⟩ := r.three
 obtain ⟨c, rfl, e1⟩ := r1.refI
 obtain ⟨t, rfl⟩ := r2.strI
 obtain ⟨a1, f1, kvs, D, r⟩ := S.live _ _ hi
 rwa [e1] at f1
 obtain ⟨_, _, _, _, _, _, _, _, nd⟩ := id D
 obtain ⟨z, hz1, hz2⟩ := r.find nd hm
 refine kZ ?_
 refine call_meetsIn PySem.F.slot_dict_get D.mapOf.typeIs PySem.F.entry_dict_get (PySem.F.args_dict_get_3 _ _ _) (meets_dict_get_default (strKind pw Γ.w) c (strKind_is _ _ k t) (sysM S e1) y) ⟨_, D.mapOf, ?_⟩
 rw [hz1]
 exact aAe h hz2 S
theorem aHo {i : Id} {l : List AV} {Q : AV → AH → Prop} (hi : H i = .live (.lst l)) (hz : l.length ≤ 1000000) (h : Q (.int l.length) H) : Cl Γ d (.builtin "len") [.ref i] H Q := Cl.mk fun A s φ xs R S r => by
 refine hZ fun GZ kZ => ?_
 obtain ⟨_, rfl, r1⟩ := r.one
 obtain ⟨c, rfl, e1⟩ := r1.refI
 obtain ⟨a1, f1, vs, m, q1, w1⟩ := S.live _ _ hi
 rwa [e1] at f1
 have ll := w1.length
 refine kZ ?_
 refine PyProof.Rows.len_list (items := vs.toArray) ⟨_, q1, rfl, _, rfl⟩ (by rw [List.size_toArray]; exact zi [vs.length, l.length] [] (.h 1 (.u 1) (.n 1000000) (.h 1 (.u 0) (.u 1) .e)) (.a (.u 0) (.n 1)) (.n (2^63)) rfl (zcl hz) (zcl (Nat.le_of_eq ll))) ?_
 rw [List.size_toArray, ll]
 exact aAe h (.int _ _) S
theorem aFi {x : Str} {Q : AV → AH → Prop} (hz : x.length ≤ 1000000) (h : Q (.int x.length) H) : Cl Γ d (.builtin "len") [.str x] H Q := Cl.mk fun A s φ xs R S r => by
 obtain ⟨_, rfl, r1⟩ := r.one
 obtain ⟨t, rfl⟩ := r1.strI
 exact PyProof.Rows.len_str (by exact fun e => (zff (zco (zi [x.length] [] (.h 1 (.u 0) (.n 1000000) (.h 1 (.n (2^63)) (.u 0) .e)) (.n 1) (.n 0) rfl (zcl hz) e)))) (aAe h (.int _ _) S)
theorem aVo {c : Nat} {Q : AV → AH → Prop} (h : Q (.int c) H) : Cl Γ d (.builtin "ord") [.str ⟨#[c]⟩] H Q := Cl.mk fun A s φ xs R S r => by
 obtain ⟨_, rfl, r1⟩ := r.one
 obtain ⟨t, rfl⟩ := r1.strI
 exact PySem.P.ord_of_char (aAe h (.int _ _) S)
theorem aVn {i : Int} {c : Nat} {Q : AV → AH → Prop} (hi : i = c) (hc : c ≤ 1000) (h : Q (.str ⟨#[c]⟩) H) : Cl Γ d (.builtin "chr") [.int i] H Q := Cl.mk fun A s φ xs R S r => by
 obtain ⟨_, rfl, r1⟩ := r.one
 obtain ⟨t, rfl⟩ := r1.intI
 subst hi
 exact PySem.P.chr_of_int (by simp only [Bool.or_eq_false_iff, decide_eq_false_iff_not]; exact ⟨(fun e => (zff (zco (zi [c] [] (.h 1 (.a (.u 0) (.n 1)) (.n 0) .e) (.n 1) (.n 0) rfl e)))), (fun e => (zff (zco (zi [c] [] (.h 1 (.u 0) (.n 1000) (.h 1 (.a (.n 1114111) (.n 1)) (.u 0) .e)) (.n 1) (.n 0) rfl (zcl hc) e))))⟩) (aAe (by rw [Int.toNat_natCast]; exact h) (.str _ _) S)
end
end
section
section
variable {Γ : Cx} {fc : FC} {d : Nat} {ρ : Loc} {H : AH}
theorem aUy {n : Nat} (h : n < 2 ^ 64) : n.log2 < 1920 := by
 rcases Nat.eq_zero_or_pos n with h0 | hp
 ·rw [h0]; decide
 ·have := (Nat.log2_lt (Nat.ne_of_gt hp)).mpr h
  exact zn [n.log2] (.h 1 (.a (.v 0) (.n 1)) (.n 64) .e) (.a (.v 0) (.n 1)) (.n 1920) rfl this
theorem aE7 {a : Int} {Q : AV → AH → Prop} (ha : a.natAbs < 2 ^ 64) (h : Q (.str (toString a)) H) : Cl Γ d (.type "str") [.int a] H Q := Cl.mk fun A s φ xs R S r => by
 obtain ⟨_, rfl, r1⟩ := r.one
 obtain ⟨t, rfl⟩ := r1.intI
 exact PySem.P.str_of_int (aUy ha) (aAe h (.str _ _) S)
theorem aFj {l : List AV} {Q : AV → AH → Prop} (k : Id) (hk : H k = .free) (hz : l.length ≤ 1000000) (h : Q (.ref k) (upd H k (.live (.lst l)))) : Cl Γ d (.type "list") [.tup l] H Q := Cl.mk fun A s φ xs R S r => by
 obtain ⟨_, rfl, r1⟩ := r.one
 obtain ⟨c, vs, n, rfl, e1, w1⟩ := r1.tupI
 have ll := w1.length
 refine call_list_seq c (.inr rfl) e1 rfl rfl (fun h' c' hkk e' => ?_) (by rw [List.size_toArray, ll, sizeLine_eq]; omega)
 have hn := S.free k hk
 have g : Go φ s (put φ k false s.heap.objs.size) { s with heap := h' } := ⟨⟨h', s.toks, rfl⟩, fun a e => aEn hkk e, fun b o e _ => hkk b o e, fun _ _ _ e => aB5 (hn _) e, fun j b a e => by
  rcases aB4 e with ⟨_, _, rfl⟩ | e
  ·exact .inr aAs
  ·exact .inl e⟩
 have tp := S.tup g
 refine ⟨.ref k, _, _, h, .ref aB0, g, ⟨fun b o e => hkk _ _ (S.base _ _ e), fun j b a e => ?_, fun j b a e => ?_, fun j b k' c a e1 e2 => ?_, fun j hj b => ?_, fun j o e => ?_⟩⟩
 ·rcases aB4 e with ⟨_, _, rfl⟩ | e
  ·exact S.fresh
  ·exact S.above _ _ _ e
 ·rcases aB4 e with ⟨_, _, rfl⟩ | e
  ·exact ⟨_, e', aBe⟩
  ·obtain ⟨o, h1, h2⟩ := S.there _ _ _ e
   exact ⟨o, hkk _ _ h1, h2⟩
 ·rcases aB4 e1 with ⟨z1, z2, z3⟩ | q1 <;> rcases aB4 e2 with ⟨y1, y2, y3⟩ | q2
  ·exact ⟨z1.trans y1.symm, z2.trans y2.symm⟩
  ·exact absurd (aBg S q2) (by rw [z3]; exact Nat.lt_irrefl _)
  ·exact absurd (aBg S q1) (by rw [y3]; exact Nat.lt_irrefl _)
  ·exact S.inj _ _ _ _ _ q1 q2
 ·unfold upd at hj
  split at hj
  ·cases hj
  ·rename_i n
   have := S.free j hj b
   unfold put
   rw [if_neg fun q => n q.1]; exact this
 ·unfold upd at e
  split at e
  ·rename_i n
   subst n
   cases e
   exact ⟨_, aB0, vs, c', e', w1.mono (fun _ _ _ e => aB5 (hn _) e) tp⟩
  ·obtain ⟨a, h1, h2⟩ := S.live j o e
   exact ⟨a, aB5 (hn _) h1, h2.move h1 (fun _ _ _ e => aB5 (hn _) e) tp fun _ _ _ _ e => hkk _ _ e⟩
theorem aMz {i : Id} {l : List AV} {Q : AV → AH → Prop} (hi : H i = .live (.lst l)) (hz : l.length ≤ 1000000) (h : Q (.tup l) H) : Cl Γ d (.type "tuple") [.ref i] H Q := Cl.mk fun A s φ xs R S r => by
 refine hZ fun GZ kZ => ?_
 obtain ⟨_, rfl, r1⟩ := r.one
 obtain ⟨c, rfl, e1⟩ := r1.refI
 obtain ⟨a1, f1, vs, m, q1, w1⟩ := S.live _ _ hi
 rwa [e1] at f1
 have ll := w1.length
 refine kZ ?_
 refine call_tuple_list (items := vs.toArray) ⟨_, q1, rfl, _, rfl⟩ (fun h' hk => ?_) (by rw [List.size_toArray, ll, sizeLine_eq]; omega)
 obtain ⟨g1, S1⟩ := S.grow (Γ := Γ) (s := s) (h' := h') (t := s.toks) hk
 obtain ⟨g2, S2⟩ := S1.pushed (Γ := Γ) (s := { s with heap := h' }) { cls := .type "tuple", data := .seq vs.toArray } (t := s.toks)
 exact ⟨.tup l, H, φ, h, .tup (Heap.get?_push_size _ rfl) ((w1.go S g1).go (s := { s with heap := h' }) S1 g2), g1.trans g2, S2⟩
noncomputable def strL (l : List Str) : List AV := l.map .str
theorem strsAre {φ : Mp} {h : Heap} {l : List Str} {vs : List Value} (r : VRs φ h (strL l) vs) : StrsAre vs l := by
 induction l generalizing vs with
 | nil => cases r; exact .nil
 | cons x l ih => cases r with | cons a r => obtain ⟨t, rfl⟩ := a.strI; exact .cons _ _ (ih r)
theorem aTl {i : Id} {l : List Str} {x : Str} {Q : AV → AH → Prop} (hi : H i = .live (.lst (strL l))) (hx : x.length ≤ 16) (hz : (l.map (·.length)).sum + l.length ≤ 100000) (h : Q (.str (Txt.join x l)) H) : Cl Γ d (.builtin "str.join") [.str x, .ref i] H Q := Cl.mk fun A s φ xs R S r => by
 refine hZ fun GZ kZ => ?_
 obtain ⟨_, _, rfl, r1, r2⟩ := r.two
 obtain ⟨t, rfl⟩ := r1.strI
 obtain ⟨c, rfl, e1⟩ := r2.refI
 obtain ⟨a1, f1, vs, m, q1, w1⟩ := S.live _ _ hi
 rwa [e1] at f1
 refine kZ ?_
 exact join_listW (items := vs.toArray) ⟨_, q1, rfl, _, rfl⟩ (by rw [List.toList_toArray]; exact strsAre w1) hx (by omega) fun t' k => aAe h (.str _ _) S
theorem aJ0 {φ : Mp} {s : Shared} (S : St Γ.w Γ.h₀ φ H s.heap) {k : Id} (hk : H k = .free) {a b c : Int} {t u v : Tok} {n : Nat} {Q : AV → AH → Prop} (h : Q (.ref k) (upd H k (.live (.rng a b c)))) :
  Post Γ φ s Q (.ref s.heap.objs.size) { s with heap := s.heap.push { cls := .type "range", data := .fields #[.int a t, .int b u, .int c v] }, toks := n } := by
 have hn := S.free k hk
 obtain ⟨g, S2⟩ := S.alloc (Γ := Γ) (s := s) (t := n) hk (o := { cls := .type "range", data := .fields #[.int a t, .int b u, .int c v] }) rfl (show Value.type "range" ≠ Value.type "tuple" by decide) (.rng a b c) ⟨t, u, v, Heap.get?_push_size _ rfl⟩
 exact ⟨.ref k, _, _, h, .ref aB0, g, S2⟩
theorem aMx {b : Int} {Q : AV → AH → Prop} (k : Id) (hk : H k = .free) (h : Q (.ref k) (upd H k (.live (.rng 0 b 1)))) : Cl Γ d (.type "range") [.int b] H Q := Cl.mk fun A s φ xs R S r => by
 obtain ⟨_, rfl, r1⟩ := r.one
 obtain ⟨t, rfl⟩ := r1.intI
 exact call_range_1 (aJ0 S hk h)
theorem aMy {a b c : Int} {Q : AV → AH → Prop} (k : Id) (hk : H k = .free) (hc : c ≠ 0) (hc2 : c.natAbs < 1000) (h : Q (.ref k) (upd H k (.live (.rng a b c)))) : Cl Γ d (.type "range") [.int a, .int b, .int c] H Q := Cl.mk fun A s φ xs R S r => by
 obtain ⟨_, _, _, rfl, r1, r2, r3⟩ := r.three
 obtain ⟨t, rfl⟩ := r1.intI
 obtain ⟨t2, rfl⟩ := r2.intI
 obtain ⟨t3, rfl⟩ := r3.intI
 exact call_range_3 hc (aJ0 S hk h) (.inl (aJ3 hc2))
noncomputable def rngItems (a b c : Int) : List AV := (List.range (Builtin.Range.rangeSize a b c).toNat).map fun (k : Nat) => AV.int (a + ((k : Nat) : Int) * c)
theorem aKw {e : Expr} {x : Str} {p : Pos} {Q : List AV → (AH → Prop) → AH → Prop}
  (h : Ev Γ fc d e ρ H (fun v H' => ∃ i a b c, v = .ref i ∧ H' i = .live (.rng a b c) ∧ Builtin.Range.small a b c = true ∧ 0 ≤ Builtin.Range.rangeSize a b c ∧ Q (rngItems a b c) (fun _ => True) H')) : It Γ fc d e (.Name x p) ρ H Q := It.mk fun A s φ L m R hk x =>
 aAa (α := Unit) (E := noE) h R hk x fun v H' φ' y s' zz0 r g x' => by
  refine hZ fun GZ kZ => ?_
  obtain ⟨i, a, b, c, hv, hi, hsm, hpos, q⟩ := zz0
  subst hv
  obtain ⟨ad, rfl, ea⟩ := r.refI
  obtain ⟨a1, f1, t, u, v, q1⟩ := x'.st.live _ _ hi
  rwa [ea] at f1
  refine kZ ?_
  refine wpAny_pyIter_range q1 hsm ?_
  obtain ⟨g2, S2⟩ := x'.st.pushed (Γ := Γ) (s := s') { cls := .type "range_iterator", data := .fields #[rawInt a, rawInt (Builtin.Range.rangeSize a b c), rawInt c] } (t := s'.toks)
  have fr : s'.heap.get? s'.heap.objs.size = none := aAs
  have nfoot : ¬ foot φ' s'.heap.objs.size := fun ⟨i, b, q⟩ => by
   obtain ⟨o, e, _⟩ := x'.st.there _ _ _ q
   rwa [fr] at e
  have ll : (rngItems a b c).length = (Builtin.Range.rangeSize a b c).toNat := by simp [rngItems]
  refine ⟨_, rngItems a b c, _, H', φ', fun k h => IsRangeIter h s'.heap.objs.size (a + (k : Int) * c) (Builtin.Range.rangeSize a b c - k) c, rfl, q, g.trans g2, S2, g.al _ fr, nfoot, ?_, ⟨?_, ?_, ?_, ?_⟩⟩
  ·have e1 : a + ((0 : Nat) : Int) * c = a := by simp
   have e2 : Builtin.Range.rangeSize a b c - ((0 : Nat) : Int) = Builtin.Range.rangeSize a b c := by simp
   show IsRangeIter _ _ (a + ((0 : Nat) : Int) * c) (Builtin.Range.rangeSize a b c - ((0 : Nat) : Int)) c
   rw [e1, e2]
   exact Heap.get?_push_size _ rfl
  ·intro k h h' e hh
   exact hh _ e
  ·intro k h e
   exact ⟨_, e, show Value.type "range_iterator" ≠ Value.type "tuple" by decide⟩
  ·intro A s1 φ1 H1 k u R1 hK S1 hx ht hf hJ hu
   have hk : k < (Builtin.Range.rangeSize a b c).toNat := by
    rcases Nat.lt_or_ge k (rngItems a b c).length with hh | hh
    ·exact oz294 ll hh
    ·rwa [List.getElem?_eq_none hh] at hu
   refine wpAny_pyNext_range_item hJ (by exact oz295 hk) fun h' hj' hs' => ⟨_, rfl, aEl ⟨⟨⟨h', _, rfl⟩, hs'.extBut⟩, ?_, ?_⟩⟩
   ·have e1 : a + ((k + 1 : Nat) : Int) * c = a + (k : Int) * c + c := by push_cast; rw [Int.add_mul, Int.one_mul, Int.add_assoc]
    have e2 : Builtin.Range.rangeSize a b c - ((k + 1 : Nat) : Int) = Builtin.Range.rangeSize a b c - (k : Int) - 1 := by push_cast; exact oz296
    rw [e1, e2]; exact hj'
   ·have : u = .int (a + (k : Int) * c) := by
     have hh : (rngItems a b c)[k]? = some (.int (a + (k : Int) * c)) := by
      unfold rngItems
      rw [List.getElem?_map, List.getElem?_eq_getElem (by simpa using hk)]
      simp
     rw [hh] at hu
     exact (Option.some.inj hu).symm
    rw [this]
    exact .int _ _
  ·intro A s1 φ1 H1 R1 hK S1 hx ht hf hJ
   exact wpAny_pyNext_range_end R1.handled hJ (by rw [ll]; exact oz297 hpos) fun h' he => ⟨rfl, ⟨h', s1.toks, rfl⟩, he⟩
theorem aW2 {e : Expr} {x : Str} {p : Pos} {Q : List AV → (AH → Prop) → AH → Prop}
  (h : Ev Γ fc d e ρ H (fun v H' => ∃ z, v = .str z ∧ Q (z.cps.toList.map fun c => .str ⟨#[c]⟩) (fun _ => True) H')) : It Γ fc d e (.Name x p) ρ H Q := It.mk fun A s φ L m R hk x =>
 aAa (α := Unit) (E := noE) h R hk x fun v H' φ' y s' zz0 r g x' => by
  obtain ⟨z, hv, q⟩ := zz0
  subst hv
  obtain ⟨tz, rfl⟩ := r.strI
  have fr : s'.heap.get? s'.heap.objs.size = none := aAs
  have nfoot : ¬ foot φ' s'.heap.objs.size := fun ⟨i, b, q⟩ => by
   obtain ⟨o, e, _⟩ := x'.st.there _ _ _ q
   rwa [fr] at e
  have get : ∀ (k : Nat) (u : AV), (z.cps.toList.map fun c => AV.str ⟨#[c]⟩)[k]? = some u → ∃ c, z.cps[k]? = some c ∧ u = .str ⟨#[c]⟩ := fun k u hu => by
   rw [List.getElem?_map] at hu
   obtain ⟨c, h1, h2⟩ := Option.map_eq_some_iff.mp hu
   exact ⟨c, by simpa using h1, h2.symm⟩
  cases ha : z.cps.all (·< 128) with
  | true =>
   refine wpAny_pyIter_ascii ha ?_
   obtain ⟨g2, S2⟩ := x'.st.pushed (Γ := Γ) (s := s') { cls := .type "str_ascii_iterator", data := .fields #[.str z tz, .int 0 0] } (t := s'.toks)
   refine ⟨_, _, _, H', φ', fun k h => h.IsStrIter s'.heap.objs.size "str_ascii_iterator" z tz k, rfl, q, g.trans g2, S2, g.al _ fr, nfoot, ⟨_, Heap.get?_push_size _ rfl, rfl, rfl⟩, ⟨?_, ?_, ?_, ?_⟩⟩
   ·rintro k h h' ⟨o, e1, e2, e3⟩ hh
    exact ⟨o, hh o e1, e2, e3⟩
   ·rintro k h ⟨o, e1, e2, e3⟩
    exact ⟨o, e1, by rw [e2]; decide⟩
   ·intro A s1 φ1 H1 k u R1 hK S1 hx ht hf hJ hu
    obtain ⟨c, hc, rfl⟩ := get k u hu
    exact wpAny_pyNext_ascii_item hJ hc fun h' hj' hs' => ⟨_, rfl, aEl ⟨⟨⟨h', _, rfl⟩, hs'.extBut⟩, hj', .str _ _⟩⟩
   ·intro A s1 φ1 H1 R1 hK S1 hx ht hf hJ
    exact wpAny_pyNext_ascii_end R1.handled hJ (by simp) fun h' he => ⟨rfl, ⟨h', s1.toks, rfl⟩, he⟩
  | false =>
   refine wpAny_pyIter_wide ha ?_
   obtain ⟨g2, S2⟩ := x'.st.pushed (Γ := Γ) (s := s') { cls := .type "str_iterator", data := .fields #[.str z tz, .int 0 0] } (t := s'.toks)
   refine ⟨_, _, _, H', φ', fun k h => h.IsStrIter s'.heap.objs.size "str_iterator" z tz k, rfl, q, g.trans g2, S2, g.al _ fr, nfoot, ⟨_, Heap.get?_push_size _ rfl, rfl, rfl⟩, ⟨?_, ?_, ?_, ?_⟩⟩
   ·rintro k h h' ⟨o, e1, e2, e3⟩ hh
    exact ⟨o, hh o e1, e2, e3⟩
   ·rintro k h ⟨o, e1, e2, e3⟩
    exact ⟨o, e1, by rw [e2]; decide⟩
   ·intro A s1 φ1 H1 k u R1 hK S1 hx ht hf hJ hu
    obtain ⟨c, hc, rfl⟩ := get k u hu
    exact wpAny_pyNext_wide_item hJ hc fun h' hj' hs' => ⟨_, rfl, aEl ⟨⟨⟨h', _, rfl⟩, hs'.extBut⟩, hj', .str _ _⟩⟩
   ·intro A s1 φ1 H1 R1 hK S1 hx ht hf hJ
    exact wpAny_pyNext_wide_end R1.handled hJ (by simp) fun h' he => ⟨rfl, ⟨h', s1.toks, rfl⟩, he⟩
end
end
section
section
variable {Γ : Cx} {fc : FC} {d : Nat} {ρ : Loc} {H : AH}
def Le (H H' : AH) : Prop := ∀ i, H' i = H i ∨ H' i = .dead
theorem Le.refl {H : AH} : Le H H := fun _ => .inl rfl
theorem Le.of_eq {H H' : AH} (e : H = H') : Le H H' := e ▸ Le.refl
theorem St.drop {w : World} {h₀ : Heap} {φ : Mp} {H H' : AH} {h : Heap} (S : St w h₀ φ H h) (l : Le H H') : St w h₀ φ H' h :=
 ⟨S.base, S.above, S.there, S.inj, fun i e b => S.free i (by rcases l i with q | q <;> rw [q] at e <;> first | exact e | cases e) b, fun i o e => S.live i o (by rcases l i with q | q <;> rw [q] at e <;> first | exact e | cases e)⟩
theorem Here.drop {φ : Mp} {L : Addr} {m : Str → Option Value} {h : Heap} {H' : AH} (x : Here Γ fc φ H ρ L m h) (l : Le H H') : Here Γ fc φ H' ρ L m h := ⟨x.ns, x.ow, x.ap, x.nL, x.lr, x.st.drop l⟩
theorem aKv {e : List Stmt} {H' : AH} {Q : AF → Loc → AH → Prop} (l : Le H H') (h : Exs Γ fc d e ρ H' Q) : Exs Γ fc d e ρ H Q := Exs.mk fun A s φ L m R hk x => h.go A s φ L m R hk (x.drop l)
theorem Exs.out {e : List Stmt} {Q Q' : AF → Loc → AH → Prop} (h : Exs Γ fc d e ρ H Q) (k : ∀ f ρ H, Q f ρ H → ∃ H', Le H H' ∧ Q' f ρ H') : Exs Γ fc d e ρ H Q' := Exs.mk fun A s φ L m R hk x =>
 aAf (h.go A s φ L m R hk x) fun _ _ zz0 => by obtain ⟨a, ρ', H', φ', m', q, r, g, x'⟩ := zz0; exact let ⟨H'', l, q'⟩ := k _ _ _ q; ⟨a, ρ', H'', φ', m', q', r, g, x'.drop l⟩
theorem Cl.mono {f : Value} {args : List AV} {Q Q' : AV → AH → Prop} (h : Cl Γ d f args H Q) (k : ∀ v H', Q v H' → Q' v H') : Cl Γ d f args H Q' := Cl.mk fun A s φ xs R S r =>
 aAf (h.go A s φ xs R S r) fun _ _ zz0 => by obtain ⟨v, H', φ', q, r, g, x⟩ := zz0; exact ⟨v, H', φ', k _ _ q, r, g, x⟩
theorem Cl.less {d' : Nat} {f : Value} {args : List AV} {Q : AV → AH → Prop} (h : Cl Γ d' f args H Q) (hd : d' ≤ d) : Cl Γ d f args H Q := Cl.mk fun A s φ xs R S r => h.go A s φ xs (R.less hd) S r
theorem Cd.less {d' : Nat} {f : Value} {args : List AV} {Q : AV → AH → Prop} (h : Cd Γ d' f args H Q) (hd : d' ≤ d) : Cd Γ d f args H Q := Cd.mk fun A s φ xs R S r => h.go A s φ xs (R.less hd) S r
theorem aFw {w : World} {h : Heap} {dx : Addr} (e : h.get? dx = some emptyDict) : h.DictOf (strKind pw w) dx [] :=
 ⟨emptyDict, #[], _, e, ⟨rfl, rfl, rfl⟩, rfl, fun en he => by simp at he, .nil, List.nodup_nil⟩
theorem aDw {C fI : Addr} {args : List AV} {Q : AV → AH → Prop} (i : Id) (hi : H i = .free) (hm : makesIn (K Γ.w.params) C = true) (hf : findIn (K Γ.w.params) (.ref C) "__init__" = some (some (.ref fI))) (ht : typeIn (K Γ.w.params) (.ref fI) = some (.type "function"))
  (h : Cd Γ d (.ref fI) (.ref i :: args) (upd H i (.live (.ins C []))) (fun v H' => v = .none ∧ Q (.ref i) H')) : Cl Γ (d + 1) (.ref C) args H Q := Cl.mk fun A s φ xs R S r => by
 refine wpAny_call ?_
 have X := S.inK
 have hn := S.free i hi
 obtain ⟨hh, g, dr, t, os⟩ := s
 dsimp only at X S r
 refine make_core (makes_of X hm) (looks_findIn X hf) (fun self => bind_fn X self ht) (.inl rfl) ?_
 have kk : ∀ b o, hh.get? b = some o → ((hh.push emptyDict).push (instObj C hh.objs.size)).get? b = some o := fun b o e => Heap.get?_push_of_some _ (Heap.get?_push_of_some _ e)
 have e1 : ((hh.push emptyDict).push (instObj C hh.objs.size)).get? hh.objs.size = some emptyDict := Heap.get?_push_of_some _ (Heap.get?_push_size _ rfl)
 have e2 : ((hh.push emptyDict).push (instObj C hh.objs.size)).get? (hh.objs.size + 1) = some (instObj C hh.objs.size) := by
  have := Heap.get?_push_size (h := hh.push emptyDict) (o := instObj C hh.objs.size) rfl
  rw [Heap.size_push] at this; assumption
 have n1 : hh.get? (hh.objs.size + 1) = none := by
  cases q : hh.get? (hh.objs.size + 1) with
  | none => rfl
  | some o => exact absurd (Heap.lt_size q) (Nat.not_lt.mpr (Nat.le_succ _))
 let φ' := put (put φ i true hh.objs.size) i false (hh.objs.size + 1)
 have old : ∀ {j b a}, φ j b = some a → φ' j b = some a := fun {j b a} q => by
  refine aB5 ?_ (aB5 (hn _) q)
  unfold put
  rw [if_neg (by simp)]; exact hn _
 have inv : ∀ {j b a}, φ' j b = some a → (j = i ∧ b = false ∧ a = hh.objs.size + 1) ∨ (j = i ∧ b = true ∧ a = hh.objs.size) ∨ φ j b = some a := fun {j b a} q => by
  rcases aB4 q with q | q
  ·exact .inl q
  ·rcases aB4 q with q | q
   ·exact .inr (.inl q)
   ·exact .inr (.inr q)
 have fF : φ' i false = some (hh.objs.size + 1) := aB0
 have fT : φ' i true = some hh.objs.size := by
  show put _ i false _ i true = _
  unfold put
  rw [if_neg (by simp), if_pos ⟨rfl, rfl⟩]
 have up : ∀ {a}, hh.get? a = none → hh.objs.size ≤ a → Γ.h₀.get? a = none := fun {a} q _ => by
  cases z : Γ.h₀.get? a with
  | none => rfl
  | some o => rwa [S.base _ _ z] at q
 have g0 : Go φ (⟨hh, g, dr, t, os⟩ : Shared) φ' ⟨(hh.push emptyDict).push (instObj C hh.objs.size), g, dr, t, os⟩ :=
  ⟨⟨_, _, rfl⟩, fun a e => aEn kk e, fun b o e _ => kk b o e, fun _ _ _ e => old e, fun j b a e => by
   rcases inv e with ⟨_, _, rfl⟩ | ⟨_, _, rfl⟩ | e
   ·exact .inr n1
   ·exact .inr aAs
   ·exact .inl e⟩
 have S' : St Γ.w Γ.h₀ φ' (upd H i (.live (.ins C []))) ((hh.push emptyDict).push (instObj C hh.objs.size)) := by
  refine ⟨fun b o e => kk _ _ (S.base b o e), fun j b a e => ?_, fun j b a e => ?_, fun j b k c a q1 q2 => ?_, fun j hj b => ?_, fun j o e => ?_⟩
  ·rcases inv e with ⟨_, _, rfl⟩ | ⟨_, _, rfl⟩ | e
   ·exact up n1 (by omega)
   ·exact up aAs (Nat.le_refl _)
   ·exact S.above _ _ _ e
  ·rcases inv e with ⟨_, _, rfl⟩ | ⟨_, _, rfl⟩ | e
   ·exact ⟨_, e2, by simp⟩
   ·exact ⟨_, e1, by simp⟩
   ·obtain ⟨o, q1, q2⟩ := S.there _ _ _ e
    exact ⟨o, kk _ _ q1, q2⟩
  ·rcases inv q1 with ⟨a1, a2, a3⟩ | ⟨a1, a2, a3⟩ | z1 <;> rcases inv q2 with ⟨b1, b2, b3⟩ | ⟨b1, b2, b3⟩ | z2
   ·exact ⟨a1.trans b1.symm, a2.trans b2.symm⟩
   ·exact absurd (a3.symm.trans b3) (Nat.succ_ne_self _)
   ·exact absurd (aBg S z2) (by rw [a3]; exact Nat.not_lt.mpr (Nat.le_succ _))
   ·exact absurd (b3.symm.trans a3) (Nat.succ_ne_self _)
   ·exact ⟨a1.trans b1.symm, a2.trans b2.symm⟩
   ·exact absurd (aBg S z2) (by rw [a3]; exact Nat.lt_irrefl _)
   ·exact absurd (aBg S z1) (by rw [b3]; exact Nat.not_lt.mpr (Nat.le_succ _))
   ·exact absurd (aBg S z1) (by rw [b3]; exact Nat.lt_irrefl _)
   ·exact S.inj _ _ _ _ _ z1 z2
  ·unfold upd at hj
   split at hj
   ·cases hj
   ·rename_i n
    have := S.free j hj b
    show put _ i false _ j b = none
    unfold put
    rw [if_neg fun q => n q.1, if_neg fun q => n q.1]; exact this
  ·unfold upd at e
   split at e
   ·rename_i n
    subst n
    cases e
    exact ⟨_, fF, _, [], e2, fT, aFw e1, .nil, fun p hp => by cases hp⟩
   ·obtain ⟨a, q1, q2⟩ := S.live j o e
    exact ⟨a, old q1, q2.move q1 (fun _ _ _ e => old e) (S.tup g0) fun _ _ _ _ e => kk _ _ e⟩
 have R' : Room (A.under (.builtin "type.__call__" ⟨.ref C :: xs, []⟩)) d := ⟨R.handled, by
  have := R.depth
  have e : (A.under (.builtin "type.__call__" ⟨.ref C :: xs, []⟩)).depth = A.depth + 1 := rfl
  rw [e]; exact oz298 this, by
  have := R.units
  have e : (A.under (.builtin "type.__call__" ⟨.ref C :: xs, []⟩)).units = A.units + 1 := ⋯
  rw [e]; exact zn [A.units, d] (.h 1 (.a (.v 0) (.m 40 (.a (.v 1) (.n 1)))) (.n 9000) .e) (.a (.a (.v 0) (.n 1)) (.m 40 (.v 1))) (.n 9000) rfl this⟩
 refine codeAny_mono (h.go _ _ φ' (.ref (hh.objs.size + 1) :: xs) R' S' (.cons (.ref fF) (r.go S g0))) fun r s' p => ?_
 rcases r with e | (v | _ | _ | _) <;> first | exact p.elim | skip
 refine hZ fun GZ kZ => ?_
 obtain ⟨v', H', φ2, ⟨q1, q2⟩, r2, g2, S2⟩ := p
 subst q1
 cases r2
 refine kZ ?_
 exact ⟨rfl, .ref i, H', φ2, q2, .ref (g2.ext _ _ _ fF), g0.trans g2, S2⟩
end
end
section
structure Node where
 kind : Str
 space : Str
 name : Str
 attrs : List (Str × Str)
 text : Str
 parent : Int
 kids : List Int
structure BS where
 nodes : List Node
 cont : List (Int × Int)
 contE : Nat
 items : List Int
 mode : Str
 orig : Str
 head : Int
 form : Int
 owners : List (Int × Int)
 ownE : Nat
 foster : Bool
 ack : Bool
 errors : List (Str × Str)
 pends : List (List Str)
noncomputable def intL (l : List Int) : List AV := l.map .int
noncomputable def pairA (p : Str × Str) : AV := .tup [.str p.1, .str p.2]
noncomputable def pairL (l : List (Str × Str)) : List AV := l.map pairA
noncomputable def mapI (l : List (Int × Int)) : List (Int × AV) := l.map fun p => (p.1, .int p.2)
noncomputable def chTok (x : Str) : AV := .tup [.str "char", .str x]
noncomputable def chL (l : List Str) : List AV := l.map chTok
noncomputable def refK (f : Nat → Id) (n : Nat) : List AV := (List.range n).map fun k => .ref (f k)
noncomputable def kindsL (l : List Node) : List AV := l.map fun n => .str n.kind
noncomputable def spacesL (l : List Node) : List AV := l.map fun n => .str n.space
noncomputable def namesL (l : List Node) : List AV := l.map fun n => .str n.name
noncomputable def textsL (l : List Node) : List AV := l.map fun n => .str n.text
noncomputable def parentsL (l : List Node) : List AV := l.map fun n => .int n.parent
noncomputable abbrev treeFs : List (Str × AV) := [("kinds", .ref .kinds), ("spaces", .ref .spaces), ("names", .ref .names), ("attrs", .ref .attrs), ("texts", .ref .texts), ("parents", .ref .parents), ("children", .ref .children), ("contents", .ref .contents)]
noncomputable abbrev stackFs : List (Str × AV) := [("tree", .ref .tree), ("items", .ref .items)]
noncomputable abbrev fmtFs : List (Str × AV) := [("tree", .ref .tree), ("items", .ref .fitems)]
noncomputable abbrev bldFs (β : BS) : List (Str × AV) := [("rules", .ref .rules), ("tree", .ref .tree), ("stack", .ref .stack), ("formatting", .ref .fmt), ("mode", .str β.mode), ("original", .str β.orig), ("modes", .ref .modes), ("head", .int β.head), ("form", .int β.form), ("owners", .ref .owners),
 ("is_frameset_ok", .bool true), ("is_scripting", .bool false), ("is_foster", .bool β.foster), ("context", .int (-1)), ("quirks", .str "no-quirks"), ("errors", .ref .errors), ("pending", .ref (.pend (β.pends.length - 1))), ("wish", .str ""), ("is_skipping", .bool false), ("is_acknowledged", .bool β.ack), ("is_done", .bool false)]
noncomputable def rulesD : List (Str × AV) := [("in table", .glob (.ref 377)), ("in table text", .glob (.ref 391)), ("in table body", .glob (.ref 759)), ("in row", .glob (.ref 759)), ("in head", .glob (.ref 752)), ("in body", .glob (.ref 745))]
noncomputable def BH (X : AH) (β : BS) (ν : Nat) : AH := fun i => Id.casesOn (motive := fun _ => Cell) i
 (.live (.ins 634 treeFs))
 (.live (.ins 239 stackFs))
 (.live (.ins 510 fmtFs))
 (.live (.ins 712 (bldFs β)))
 (.live (.lst (kindsL β.nodes)))
 (.live (.lst (spacesL β.nodes)))
 (.live (.lst (namesL β.nodes)))
 (.live (.lst (refK .at β.nodes.length)))
 (.live (.lst (textsL β.nodes)))
 (.live (.lst (parentsL β.nodes)))
 (.live (.lst (refK .kd β.nodes.length)))
 (.live (.dci (mapI β.cont) β.contE))
 (.live (.lst (intL β.items)))
 (.live (.lst []))
 (.live (.lst (pairL β.errors)))
 (.live (.dci (mapI β.owners) β.ownE))
 (.live (.lst []))
 (.live (.dcs rulesD))
 (fun k => match β.pends[k]? with | some l => .live (.lst (chL l)) | none => .free)
 (fun k => match β.nodes[k]? with | some n => .live (.lst (intL n.kids)) | none => .free)
 (fun k => match β.nodes[k]? with | some n => .live (.lst (pairL n.attrs)) | none => .free)
 (fun k => if k < ν then .dead else .free)
 (fun k => X (.lw k))
 (fun k => X (.lx k))
section
variable {X : AH} {β : BS} {ν : Nat}
theorem aE4 {k : Nat} {n : Node} (h : β.nodes[k]? = some n) : BH X β ν (.kd k) = .live (.lst (intL n.kids)) := by simp only [BH, h]
theorem aLq {k : Nat} {n : Node} (h : β.nodes[k]? = some n) : BH X β ν (.at k) = .live (.lst (pairL n.attrs)) := by simp only [BH, h]
theorem aVd : BH X β ν (.kd β.nodes.length) = .free := by simp [BH]
theorem aVc : BH X β ν (.at β.nodes.length) = .free := by simp [BH]
theorem aKp : BH X β ν (.pend β.pends.length) = .free := by simp [BH]
theorem aCv {k : Nat} {l : List Str} (h : β.pends[k]? = some l) : BH X β ν (.pend k) = .live (.lst (chL l)) := by simp only [BH, h]
theorem aKq : BH X β ν (.tm ν) = .free := by simp [BH]
theorem aPd {c : Cell} : Le (upd (BH X β ν) (.tm ν) c) (BH X β (ν + 1)) := fun j => by
 by_cases q : j = .tm ν
 ·subst q; exact .inr (if_pos (Nat.lt_succ_self _))
 ·refine .inl ?_
  rw [upd, if_neg q]
  cases j <;> first | rfl | skip
  rename_i k
  have : k ≠ ν := fun e => q (by rw [e])
  show (if k < ν + 1 then Cell.dead else .free) = if k < ν then Cell.dead else .free
  by_cases h : k < ν
  ·rw [if_pos h, if_pos (by exact zn [k, ν] (.h 1 (.a (.v 0) (.n 1)) (.v 1) .e) (.a (.v 0) (.n 1)) (.a (.v 1) (.n 1)) rfl h)]
  ·rw [if_neg h, if_neg (by exact fun e => (this (Nat.le_antisymm (zn [k, ν] (.h 1 (.a (.v 0) (.n 1)) (.a (.v 1) (.n 1)) .e) (.v 0) (.v 1) rfl e) (zn [ν, k] (.h 1 (.v 0) (.v 1) .e) (.v 0) (.v 1) rfl (zNt h)))))]
theorem aBo {H H' : AH} {i : Id} {c : Cell} (h : H' i = c) (k : ∀ j, j ≠ i → H' j = H j) : upd H i c = H' := by
 funext j
 by_cases q : j = i
 ·rw [upd, if_pos q, q, h]
 ·rw [upd, if_neg q, k j q]
noncomputable def setN (β : BS) (k : Nat) (n : Node) : BS := { β with nodes := β.nodes.set k n }
noncomputable def addN (β : BS) (n : Node) : BS := { β with nodes := β.nodes ++ [n] }
theorem aAh {α : Type} {f : Node → α} {l : List Node} {k : Nat} {n n' : Node} (h : l[k]? = some n) (e : f n' = f n) : (l.set k n').map f = l.map f := by
 apply List.ext_getElem?
 intro i
 rw [List.getElem?_map, List.getElem?_map, List.getElem?_set]
 by_cases q : k = i
 ·subst q
  obtain ⟨hl, _⟩ := List.getElem?_eq_some_iff.mp h
  rw [if_pos rfl, if_pos hl, h]; simp [e]
 ·rw [if_neg q]
theorem aAz {l : List Node} {k i : Nat} {n n' : Node} (h : l[k]? = some n) : (l.set k n')[i]? = if i = k then some n' else l[i]? := by
 rw [List.getElem?_set]
 obtain ⟨hl, _⟩ := List.getElem?_eq_some_iff.mp h
 by_cases q : k = i
 ·subst q; rw [if_pos rfl, if_pos hl, if_pos rfl]
 ·rw [if_neg q, if_neg (Ne.symm q)]
theorem aD2 {g : Node → List AV} {l : List Node} {k : Nat} {n n' : Node} (h : l[k]? = some n) (e : g n' = g n) (i : Nat) :
  (match (l.set k n')[i]? with | some n => Cell.live (.lst (g n)) | none => .free) = (match l[i]? with | some n => Cell.live (.lst (g n)) | none => .free) := by
 rw [aAz h]
 by_cases q : i = k
 ·subst q; rw [if_pos rfl, h]; simp [e]
 ·rw [if_neg q]
theorem aOr {k : Nat} {n : Node} {x : Str} (h : β.nodes[k]? = some n) : upd (BH X β ν) .texts (.live (.lst ((textsL β.nodes).set k (.str x)))) = BH X (setN β k { n with text := x }) ν := by
 refine aBo ?_ fun j hj => ?_
 ·show Cell.live (.lst (textsL _)) = _
  rw [textsL, setN, List.map_set]; rfl
 ·cases j <;> first | rfl | exact absurd rfl hj | skip
  ·show Cell.live (.lst (kindsL _)) = Cell.live (.lst (kindsL _)); exact congrArg (Cell.live ∘ AO.lst) (aAh (f := fun n => AV.str n.kind) h rfl)
  ·show Cell.live (.lst (spacesL _)) = Cell.live (.lst (spacesL _)); exact congrArg (Cell.live ∘ AO.lst) (aAh (f := fun n => AV.str n.space) h rfl)
  ·show Cell.live (.lst (namesL _)) = Cell.live (.lst (namesL _)); exact congrArg (Cell.live ∘ AO.lst) (aAh (f := fun n => AV.str n.name) h rfl)
  ·show Cell.live (.lst (refK _ _)) = Cell.live (.lst (refK _ _)); rw [setN]; simp
  ·show Cell.live (.lst (parentsL _)) = Cell.live (.lst (parentsL _)); exact congrArg (Cell.live ∘ AO.lst) (aAh (f := fun n => AV.int n.parent) h rfl)
  ·show Cell.live (.lst (refK _ _)) = Cell.live (.lst (refK _ _)); rw [setN]; simp
  ·rename_i i; exact aD2 (n' := { n with text := x }) (g := fun n => intL n.kids) h rfl i
  ·rename_i i; exact aD2 (n' := { n with text := x }) (g := fun n => pairL n.attrs) h rfl i
theorem aKa {k : Nat} {n : Node} {x : Int} (h : β.nodes[k]? = some n) : upd (BH X β ν) .parents (.live (.lst ((parentsL β.nodes).set k (.int x)))) = BH X (setN β k { n with parent := x }) ν := by
 refine aBo ?_ fun j hj => ?_
 ·show Cell.live (.lst (parentsL _)) = _
  rw [parentsL, setN, List.map_set]; rfl
 ·cases j <;> first | rfl | exact absurd rfl hj | skip
  ·show Cell.live (.lst (kindsL _)) = Cell.live (.lst (kindsL _)); exact congrArg (Cell.live ∘ AO.lst) (aAh (f := fun n => AV.str n.kind) h rfl)
  ·show Cell.live (.lst (spacesL _)) = Cell.live (.lst (spacesL _)); exact congrArg (Cell.live ∘ AO.lst) (aAh (f := fun n => AV.str n.space) h rfl)
  ·show Cell.live (.lst (namesL _)) = Cell.live (.lst (namesL _)); exact congrArg (Cell.live ∘ AO.lst) (aAh (f := fun n => AV.str n.name) h rfl)
  ·show Cell.live (.lst (refK _ _)) = Cell.live (.lst (refK _ _)); rw [setN]; simp
  ·show Cell.live (.lst (textsL _)) = Cell.live (.lst (textsL _)); exact congrArg (Cell.live ∘ AO.lst) (aAh (f := fun n => AV.str n.text) h rfl)
  ·show Cell.live (.lst (refK _ _)) = Cell.live (.lst (refK _ _)); rw [setN]; simp
  ·rename_i i; exact aD2 (n' := { n with parent := x }) (g := fun n => intL n.kids) h rfl i
  ·rename_i i; exact aD2 (n' := { n with parent := x }) (g := fun n => pairL n.attrs) h rfl i
theorem aOp {k : Nat} {n : Node} {l : List Int} (h : β.nodes[k]? = some n) : upd (BH X β ν) (.kd k) (.live (.lst (intL l))) = BH X (setN β k { n with kids := l }) ν := by
 refine aBo ?_ fun j hj => ?_
 ·simp only [BH, setN, aAz h]; simp
 ·cases j <;> first | rfl | exact absurd rfl hj | skip
  ·show Cell.live (.lst (kindsL _)) = Cell.live (.lst (kindsL _)); exact congrArg (Cell.live ∘ AO.lst) (aAh (f := fun n => AV.str n.kind) h rfl)
  ·show Cell.live (.lst (spacesL _)) = Cell.live (.lst (spacesL _)); exact congrArg (Cell.live ∘ AO.lst) (aAh (f := fun n => AV.str n.space) h rfl)
  ·show Cell.live (.lst (namesL _)) = Cell.live (.lst (namesL _)); exact congrArg (Cell.live ∘ AO.lst) (aAh (f := fun n => AV.str n.name) h rfl)
  ·show Cell.live (.lst (refK _ _)) = Cell.live (.lst (refK _ _)); rw [setN]; simp
  ·show Cell.live (.lst (textsL _)) = Cell.live (.lst (textsL _)); exact congrArg (Cell.live ∘ AO.lst) (aAh (f := fun n => AV.str n.text) h rfl)
  ·show Cell.live (.lst (parentsL _)) = Cell.live (.lst (parentsL _)); exact congrArg (Cell.live ∘ AO.lst) (aAh (f := fun n => AV.int n.parent) h rfl)
  ·show Cell.live (.lst (refK _ _)) = Cell.live (.lst (refK _ _)); rw [setN]; simp
  ·rename_i i
   simp only [BH, setN, aAz h]
   rw [if_neg fun e => hj (by rw [e])]
  ·rename_i i; exact aD2 (n' := { n with kids := l }) (g := fun n => pairL n.attrs) h rfl i
theorem aFx {l : List Int} : upd (BH X β ν) .items (.live (.lst (intL l))) = BH X { β with items := l } ν :=
 aBo rfl fun j hj => by cases j <;> first | rfl | exact absurd rfl hj
theorem aK8 {l : List (Str × Str)} : upd (BH X β ν) .errors (.live (.lst (pairL l))) = BH X { β with errors := l } ν :=
 aBo rfl fun j hj => by cases j <;> first | rfl | exact absurd rfl hj
theorem aK9 {l : List (Int × Int)} {e : Nat} : upd (BH X β ν) .owners (.live (.dci (mapI l) e)) = BH X { β with owners := l, ownE := e } ν :=
 aBo rfl fun j hj => by cases j <;> first | rfl | exact absurd rfl hj
theorem aOo {l : List (Int × Int)} {e : Nat} : upd (BH X β ν) .contents (.live (.dci (mapI l) e)) = BH X { β with cont := l, contE := e } ν :=
 aBo rfl fun j hj => by cases j <;> first | rfl | exact absurd rfl hj
theorem aCj {β' : BS} (h1 : β'.nodes = β.nodes) (h2 : β'.cont = β.cont) (h3 : β'.contE = β.contE) (h4 : β'.items = β.items) (h5 : β'.owners = β.owners) (h6 : β'.ownE = β.ownE) (h7 : β'.errors = β.errors) (h8 : β'.pends = β.pends) :
  upd (BH X β ν) .bld (.live (.ins 712 (bldFs β'))) = BH X β' ν :=
 aBo rfl fun j hj => by cases j <;> first | exact absurd rfl hj | simp only [BH, h1, h2, h3, h4, h5, h6, h7, h8]
theorem aOq {k : Nat} {l l' : List Str} (h : β.pends[k]? = some l) : upd (BH X β ν) (.pend k) (.live (.lst (chL l'))) = BH X { β with pends := β.pends.set k l' } ν := by
 obtain ⟨hl, _⟩ := List.getElem?_eq_some_iff.mp h
 refine aBo ?_ fun j hj => ?_
 ·simp [BH, hl]
 ·cases j <;> first | rfl | exact absurd rfl hj | skip
  ·simp only [BH, bldFs, List.length_set]
  ·rename_i i
   have : k ≠ i := fun e => hj (by rw [e])
   simp only [BH, List.getElem?_set, if_neg this]
end
end
section
inductive Get (x : Str) (v : AV) : Loc → Prop
 | here {r : Loc} : Get x v ((x, some v) :: r)
 | there {p : Str × Option AV} {r : Loc} : Get x v r → Get x v (p :: r)
theorem gt1 {x : Str} {v : AV} {p0 : Str × Option AV} {r : Loc} : Get x v (p0 :: (x, some v) :: r) := .there (.here)
theorem gt2 {x : Str} {v : AV} {p0 p1 : Str × Option AV} {r : Loc} : Get x v (p0 :: p1 :: (x, some v) :: r) := .there (.there (.here))
theorem gt3 {x : Str} {v : AV} {p0 p1 p2 : Str × Option AV} {r : Loc} : Get x v (p0 :: p1 :: p2 :: (x, some v) :: r) := .there (.there (.there (.here)))
theorem gt4 {x : Str} {v : AV} {p0 p1 p2 p3 : Str × Option AV} {r : Loc} : Get x v (p0 :: p1 :: p2 :: p3 :: (x, some v) :: r) := .there (.there (.there (.there (.here))))
theorem gt5 {x : Str} {v : AV} {p0 p1 p2 p3 p4 : Str × Option AV} {r : Loc} : Get x v (p0 :: p1 :: p2 :: p3 :: p4 :: (x, some v) :: r) := .there (.there (.there (.there (.there (.here)))))
theorem gt6 {x : Str} {v : AV} {p0 p1 p2 p3 p4 p5 : Str × Option AV} {r : Loc} : Get x v (p0 :: p1 :: p2 :: p3 :: p4 :: p5 :: (x, some v) :: r) := .there (.there (.there (.there (.there (.there (.here))))))
theorem Get.mem {x : Str} {v : AV} {ρ : Loc} (g : Get x v ρ) : (x, some v) ∈ ρ := by
 induction g with
 | here => exact .head _
 | there _ ih => exact .tail _ ih
inductive Fld (x : Str) (v : AV) : List (Str × AV) → Prop
 | here {r : List (Str × AV)} : Fld x v ((x, v) :: r)
 | there {p : Str × AV} {r : List (Str × AV)} : Fld x v r → Fld x v (p :: r)
theorem fl1 {x : Str} {v : AV} {p0 : Str × AV} {r : List (Str × AV)} : Fld x v (p0 :: (x, v) :: r) := .there (.here)
theorem fl2 {x : Str} {v : AV} {p0 p1 : Str × AV} {r : List (Str × AV)} : Fld x v (p0 :: p1 :: (x, v) :: r) := .there (.there (.here))
theorem fl3 {x : Str} {v : AV} {p0 p1 p2 : Str × AV} {r : List (Str × AV)} : Fld x v (p0 :: p1 :: p2 :: (x, v) :: r) := .there (.there (.there (.here)))
theorem fl4 {x : Str} {v : AV} {p0 p1 p2 p3 : Str × AV} {r : List (Str × AV)} : Fld x v (p0 :: p1 :: p2 :: p3 :: (x, v) :: r) := .there (.there (.there (.there (.here))))
theorem fl5 {x : Str} {v : AV} {p0 p1 p2 p3 p4 : Str × AV} {r : List (Str × AV)} : Fld x v (p0 :: p1 :: p2 :: p3 :: p4 :: (x, v) :: r) := .there (.there (.there (.there (.there (.here)))))
theorem fl6 {x : Str} {v : AV} {p0 p1 p2 p3 p4 p5 : Str × AV} {r : List (Str × AV)} : Fld x v (p0 :: p1 :: p2 :: p3 :: p4 :: p5 :: (x, v) :: r) := .there (.there (.there (.there (.there (.there (.here))))))
theorem fl7 {x : Str} {v : AV} {p0 p1 p2 p3 p4 p5 p6 : Str × AV} {r : List (Str × AV)} : Fld x v (p0 :: p1 :: p2 :: p3 :: p4 :: p5 :: p6 :: (x, v) :: r) := .there (.there (.there (.there (.there (.there (.there (.here)))))))
theorem fl8 {x : Str} {v : AV} {p0 p1 p2 p3 p4 p5 p6 p7 : Str × AV} {r : List (Str × AV)} : Fld x v (p0 :: p1 :: p2 :: p3 :: p4 :: p5 :: p6 :: p7 :: (x, v) :: r) := .there (.there (.there (.there (.there (.there (.there (.there (.here))))))))
theorem Fld.mem {x : Str} {v : AV} {ρ : List (Str × AV)} (g : Fld x v ρ) : (x, v) ∈ ρ := by
 induction g with
 | here => exact .head _
 | there _ ih => exact .tail _ ih
section
variable {Γ : Cx} {fc : FC} {d : Nat} {ρ : Loc} {H : AH}
theorem aB8 [P : Plain fc] {x : Str} {p : Pos} {v : AV} {Q : AV → AH → Prop} (hm : Get x v ρ) (h : Q v H) : Ev Γ fc d (.Name x p) ρ H Q := aKu hm.mem h
structure FnG (P : Params) (x : Str) (f : Addr) : Prop where
 at_ : nsIn (K P) mainGlobals x = some (some (.ref f))
 keep : keepIn (K P) (.ref f) = true
abbrev KCl (Γ : Cx) (d : Nat) (f : Value) (Q : AV → AH → Prop) : List AV → AH → Prop := fun vs H => Cl Γ d f vs H Q
abbrev KClM (Γ : Cx) (d : Nat) (f : Value) (u : AV) (Q : AV → AH → Prop) : List AV → AH → Prop := fun vs H => Cl Γ d f (u :: vs) H Q
theorem aKr [P : Plain fc] {x : Str} {p : Pos} {f : Addr} {es : List Expr} {pos : Pos} {Q : AV → AH → Prop} (hg : FnG Γ.w.params x f) (hl : fc.scope.names.lookup x = some .globalImplicit)
  (h : Evs Γ fc d es ρ H (KCl Γ d (.ref f) Q)) (hp : es.all nst = true := by exact (rfl : true = true)) : Ev Γ fc d (.Call (.Name x p) es [] pos) ρ H Q :=
 aJd (aNd hg.at_ hl ⟨.ref f, rfl, hg.keep, h⟩) (aC2 hp)
structure BtG (P : Params) (x : Str) (v : Value) : Prop where
 out : nsIn (K P) mainGlobals x = some none
 at_ : bootBuiltins x = some v
 ne : x ≠ "__name__"
 ok : ∀ P, calleeOk P v = true
theorem aPj [P : Plain fc] {x : Str} {p : Pos} {v : Value} {es : List Expr} {pos : Pos} {Q : AV → AH → Prop} (hg : BtG Γ.w.params x v) (hl : fc.scope.names.lookup x = some .globalImplicit)
  (h : Evs Γ fc d es ρ H (KCl Γ d v Q)) (hp : es.all nst = true := by exact (rfl : true = true)) : Ev Γ fc d (.Call (.Name x p) es [] pos) ρ H Q :=
 aJd (aTo hg.out hg.at_ hg.ne hl ⟨v, rfl, hg.ok _, h⟩) (aC2 hp)
theorem aZg [P : Plain fc] {x : Str} {p : Pos} {f : Addr} {Q : AV → AH → Prop} (hg : FnG Γ.w.params x f) (hl : fc.scope.names.lookup x = some .globalImplicit) (h : Q (.glob (.ref f)) H) : Ev Γ fc d (.Name x p) ρ H Q := aNd hg.at_ hl h
theorem aKs [P : Plain fc] {x : Str} {p : Pos} {f : Addr} {es : List Expr} {pos : Pos} {Q : AV → AH → Prop} (hm : Get x (.glob (.ref f)) ρ) (hk : keepIn (K Γ.w.params) (.ref f) = true)
  (h : Evs Γ fc d es ρ H (KCl Γ d (.ref f) Q)) (hp : es.all nst = true := by exact (rfl : true = true)) : Ev Γ fc d (.Call (.Name x p) es [] pos) ρ H Q :=
 aJd (aKu hm.mem ⟨.ref f, rfl, hk, h⟩) (aC2 hp)
def At (Γ : Cx) (n : Str) (v : AV) (H : AH) (Q : AV → AH → Prop) : Prop := ∃ i C fs u, v = .ref i ∧ H i = .live (.ins C fs) ∧ ClsOk Γ.w.params C ∧ (n, u) ∈ fs ∧ plainV u = true ∧ Q u H
theorem aVb {n : Str} {i : Id} {C : Addr} {fs : List (Str × AV)} {u : AV} {Q : AV → AH → Prop} (hi : H i = .live (.ins C fs)) (hc : ClsOk Γ.w.params C) (hm : Fld n u fs) (pl : plainV u = true) (h : Q u H) : At Γ n (.ref i) H Q := ⟨i, C, fs, u, rfl, hi, hc, hm.mem, pl, h⟩
abbrev KAt (Γ : Cx) (n : Str) (Q : AV → AH → Prop) : AV → AH → Prop := fun v H => At Γ n v H Q
theorem aVt {e : Expr} {n : Str} {p : Pos} {Q : AV → AH → Prop} (h : Ev Γ fc d e ρ H (KAt Γ n Q))
  (he : nsup e = true := by exact (rfl : true = true)) : Ev Γ fc d (.Attribute e n p) ρ H Q := aTn h (aWd he)
structure Mth (Γ : Cx) (fc : FC) (d : Nat) (n : Str) (es : List Expr) (ρ : Loc) (v : AV) (H : AH) (Q : AV → AH → Prop) : Prop where
 go : ∀ (A : Around) (s : Shared) (φ : Mp) (L : Addr) (m : Str → Option Value) (y : Value) (pl : Sem Bool) (pos : Pos), Room A d → fc.scope.kind = .function → Here Γ fc φ H ρ L m s.heap → VR φ s.heap v y →
  wpAny (model pw Γ.w) A (getMethod y n pl) (fun fx s₂ => wpAny (model pw Γ.w) A (callWith pos fx.1 fx.2 (backTo pos (starEach es (fc.env L))) (backToKw pos (keywordEach [] (fc.env L)))) (Post Γ φ s Q) noE s₂) noE s
abbrev KMth (Γ : Cx) (fc : FC) (d : Nat) (n : Str) (es : List Expr) (ρ : Loc) (Q : AV → AH → Prop) : AV → AH → Prop := fun v H => Mth Γ fc d n es ρ v H Q
theorem aNe {o : Expr} {n : Str} {ap pos : Pos} {es : List Expr} {Q : AV → AH → Prop} (h : Ev Γ fc d o ρ H (KMth Γ fc d n es ρ Q))
  (he : ∀ env, ∃ pl, eval (.Call (.Attribute o n ap) es [] pos) env = (do
   let ov ← eval o env
   standAt ap.atName
   let (f, first) ← holding [ov] (getMethod ov n pl)
   callWith pos f first (backTo pos (starEach es env)) (backToKw pos (keywordEach [] env))) := by intro; exact ⟨_, rfl⟩) :
  Ev Γ fc d (.Call (.Attribute o n ap) es [] pos) ρ H Q := Ev.mk fun A s φ L m R hk x => by
 obtain ⟨pl, he⟩ := he (fc.env L)
 refine methodCall_KW (pl := pl) (aAa (α := Unit) (E := noE) h R hk x fun v H' φ' y s' q r g x' => ?_) he
 exact aAf (q.go A s' φ' L m y pl pos R hk x' r) fun fx s2 h2 => aAf h2 fun y s'' p => aB7 g p
theorem aEa {o : Expr} {n : Str} {ap pos : Pos} {es : List Expr} {Q : AV → AH → Prop} (h : Ev Γ fc d o ρ H (KMth Γ fc d n es ρ Q)) (ok : mOk o ap pos es = true := by exact (rfl : true = true)) : Ev Γ fc d (.Call (.Attribute o n ap) es [] pos) ρ H Q := aNe h (aZ0 ok)
theorem aTu [P : Plain fc] {x : Str} {p : Pos} {v : AV} {es : List Expr} {Q : List AV → AH → Prop} (g : Get x v ρ) (h : Evs Γ fc d es ρ H (KCons v Q)) : Evs Γ fc d (.Name x p :: es) ρ H Q := aAi (aB8 g h)
theorem aTv {x : Str} {k : Nat} {p : Pos} {es : List Expr} {Q : List AV → AH → Prop} (h : Evs Γ fc d es ρ H (KCons (.str x) Q)) : Evs Γ fc d (.Constant (.str x) k p :: es) ρ H Q := aAi (aHu h)
theorem aTt {x : Int} {k : Nat} {p : Pos} {es : List Expr} {Q : List AV → AH → Prop} (h : Evs Γ fc d es ρ H (KCons (.int x) Q)) : Evs Γ fc d (.Constant (.int x) k p :: es) ρ H Q := aAi (aFl h)
theorem aVu [P : Plain fc] {x n : Str} {q p : Pos} {v : AV} {Q : AV → AH → Prop} (g : Get x v ρ) (h : At Γ n v H Q) : Ev Γ fc d (.Attribute (.Name x q) n p) ρ H Q := aVt (aB8 g h)
theorem aTq [P : Plain fc] {x n : Str} {q ap pos : Pos} {v : AV} {es : List Expr} {Q : AV → AH → Prop} (g : Get x v ρ) (h : Mth Γ fc d n es ρ v H Q) (ok : mOk (.Name x q) ap pos es = true := by exact (rfl : true = true)) : Ev Γ fc d (.Call (.Attribute (.Name x q) n ap) es [] pos) ρ H Q := aEa (aB8 g h) ok
theorem aTs [P : Plain fc] {x : Str} {q p : Pos} {r : Expr} {v : AV} {Q : AV → AH → Prop} (g : Get x v ρ) (h : Ev Γ fc d r ρ H (KSub2 Γ d v Q)) (hs : nsl r = true := by exact (rfl : true = true)) : Ev Γ fc d (.Subscript (.Name x q) r p) ρ H Q := aT1 (aB8 g h) hs
structure MthOk (P : Params) (C : Addr) (n : Str) (f : Addr) : Prop where
 at_ : findIn (K P) (.ref C) n = some (some (.ref f))
 fn : isFn (K P) (.ref f) = true
 keep : keepIn (K P) (.ref f) = true
theorem aKx {n : Str} {es : List Expr} {i : Id} {C f : Addr} {fs : List (Str × AV)} {Q : AV → AH → Prop} (hi : H i = .live (.ins C fs)) (hc : ClsOk Γ.w.params C) (hm : MthOk Γ.w.params C n f)
  (h : Evs Γ fc d es ρ H (KClM Γ d (.ref f) (.ref i) Q)) (hp : es.all nst = true := by exact (rfl : true = true)) : Mth Γ fc d n es ρ (.ref i) H Q := Mth.mk fun A s φ L m y pl pos R hk x r => by
 cases r with
 | ref ha =>
  refine hZ fun GZ kZ => ?_
  obtain ⟨a', e', oa⟩ := x.st.live i _ hi
  rwa [ha] at e'
  obtain ⟨dx, od, kvs, I, _, D, E, hl, hq⟩ := aOw oa
  refine kZ ?_
  refine method_fn x.inK I hc.ga hc.gx hm.at_ (beq_iff_eq.mp hm.fn) ?_ ?_
  ·show (lookIn n od).map _ = _
   rw [hl, aJ8]
   ·rfl
   ·rw [E.keys]
    intro hin
    obtain ⟨p, hp1, hp2⟩ := List.mem_map.mp hin
    have := hq p hp1
    rw [hp2, hm.at_] at this
    cases this
  ·exact aAf (aBu (fa := [.ref i]) (f := .ref f) hm.keep (.cons (.ref ha) .nil) R hk x (aC2 hp) h) fun y s'' p => p
theorem aBa {n : Str} {id T : String} {es : List Expr} {i : Id} {ao : AO} {Q : AV → AH → Prop} (pa : PlainAttrs T) (slot : Slot T n id) (hty : typeOf (.builtin id) = pure (.type "method_descriptor")) (hi : H i = .live ao) (ht : ao.type = some T)
  (h : Evs Γ fc d es ρ H (KClM Γ d (.builtin id) (.ref i) Q)) (hp : es.all nst = true := by exact (rfl : true = true)) : Mth Γ fc d n es ρ (.ref i) H Q := Mth.mk fun A s φ L m y pl pos R hk x r => by
 cases r with
 | ref ha =>
  obtain ⟨t1, t2⟩ := aP0 x.st hi ha ht
  refine getMethod_builtin t1 pa slot hty (fun a e => by cases e; exact t2) ?_
  exact aBu (fa := [.ref i]) (f := .builtin id) rfl (.cons (.ref ha) .nil) R hk x (aC2 hp) h
set_option maxRecDepth 200000 in
theorem aNk {n : Str} {id : String} {es : List Expr} {z : Str} {Q : AV → AH → Prop} (pa : PlainAttrs "str") (slot : Slot "str" n id) (hty : typeOf (.builtin id) = pure (.type "method_descriptor"))
  (h : Evs Γ fc d es ρ H (KClM Γ d (.builtin id) (.str z) Q)) (hp : es.all nst = true := by exact (rfl : true = true)) : Mth Γ fc d n es ρ (.str z) H Q := Mth.mk fun A s φ L m y pl pos R hk x r => by
 cases r with
 | str _ t =>
  have t1 : s.TypeIs (.str z t) "str" := typeIs_str s z t
  have t2 : ∀ a, Value.str z t = .ref a → ∃ o, s.heap.get? a = some o ∧ o.dict = none := fun a e => (nomatch e)
  refine getMethod_builtin t1 pa slot hty t2 ?_
  exact aBu (fa := [.str z]) (f := .builtin id) rfl (.cons (.str _ _) .nil) R hk x (aC2 hp) h
def CmQ (Γ : Cx) (d : Nat) (op : CmpOp) (v u : AV) (H : AH) (C : Bool → Prop) : Prop := ∃ b, Cm Γ d op v u H b ∧ C b
abbrev KB (Q : AV → AH → Prop) (H : AH) : Bool → Prop := fun b => Q (.bool b) H
abbrev KTb (Q : Bool → AH → Prop) (H : AH) : Bool → Prop := fun b => Q b H
abbrev KCm2 (Γ : Cx) (d : Nat) (op : CmpOp) (v : AV) (Q : AV → AH → Prop) : AV → AH → Prop := fun u H => CmQ Γ d op v u H (KB Q H)
abbrev KCm (Γ : Cx) (fc : FC) (d : Nat) (op : CmpOp) (r : Expr) (ρ : Loc) (Q : AV → AH → Prop) : AV → AH → Prop := fun v H => Ev Γ fc d r ρ H (KCm2 Γ d op v Q)
abbrev KTc2 (Γ : Cx) (d : Nat) (op : CmpOp) (v : AV) (Q : Bool → AH → Prop) : AV → AH → Prop := fun u H => CmQ Γ d op v u H (KTb Q H)
abbrev KTc (Γ : Cx) (fc : FC) (d : Nat) (op : CmpOp) (r : Expr) (ρ : Loc) (Q : Bool → AH → Prop) : AV → AH → Prop := fun v H => Ev Γ fc d r ρ H (KTc2 Γ d op v Q)
abbrev KVal (Q : Bool → AH → Prop) : AV → AH → Prop := fun v H => ∃ b, Truth H v b ∧ Q b H
theorem aVw {l r : Expr} {op : CmpOp} {p : Pos} {Q : AV → AH → Prop} (h : Ev Γ fc d l ρ H (KCm Γ fc d op r ρ Q)) (hm : behindInMarks op r = false := by rfl) : Ev Γ fc d (.Compare l [op] [r] p) ρ H Q := aVy h hm
theorem aQ2 {l r : Expr} {op : CmpOp} {p : Pos} {Q : Bool → AH → Prop} (h : Ev Γ fc d l ρ H (KTc Γ fc d op r ρ Q)) (hm : behindInMarks op r = false := by rfl) : Tv Γ fc d (.Compare l [op] [r] p) ρ H Q := aW9 h hm
theorem aVx [P : Plain fc] {x : Str} {q p : Pos} {r : Expr} {op : CmpOp} {v : AV} {Q : AV → AH → Prop} (g : Get x v ρ) (h : Ev Γ fc d r ρ H (KCm2 Γ d op v Q)) (hm : behindInMarks op r = false := by rfl) : Ev Γ fc d (.Compare (.Name x q) [op] [r] p) ρ H Q := aVw (aB8 g h) hm
theorem aW8 [P : Plain fc] {x : Str} {q p : Pos} {r : Expr} {op : CmpOp} {v : AV} {Q : Bool → AH → Prop} (g : Get x v ρ) (h : Ev Γ fc d r ρ H (KTc2 Γ d op v Q)) (hm : behindInMarks op r = false := by rfl) : Tv Γ fc d (.Compare (.Name x q) [op] [r] p) ρ H Q := aQ2 (aB8 g h) hm
theorem aWa [P : Plain fc] {x y : Str} {k : Nat} {q q2 p : Pos} {op : CmpOp} {v : AV} {Q : Bool → AH → Prop} (g : Get x v ρ) (h : CmQ Γ d op v (.str y) H (KTb Q H)) : Tv Γ fc d (.Compare (.Name x q) [op] [.Constant (.str y) k q2] p) ρ H Q := aQ2 (aB8 g (aHu h)) rfl
theorem aW7 [P : Plain fc] {x : Str} {y : Int} {k : Nat} {q q2 p : Pos} {op : CmpOp} {v : AV} {Q : Bool → AH → Prop} (g : Get x v ρ) (h : CmQ Γ d op v (.int y) H (KTb Q H)) : Tv Γ fc d (.Compare (.Name x q) [op] [.Constant (.int y) k q2] p) ρ H Q := aQ2 (aB8 g (aFl h)) rfl
variable {C : Bool → Prop}
theorem aLu {x y : Str} (h : C (decide (x = y))) : CmQ Γ d .Eq (.str x) (.str y) H C := ⟨_, aN1, h⟩
theorem aLy {x y : Str} (h : C (!decide (x = y))) : CmQ Γ d .NotEq (.str x) (.str y) H C := ⟨_, aN8, h⟩
theorem aLt {x y : Int} (h : C (decide (x = y))) : CmQ Γ d .Eq (.int x) (.int y) H C := ⟨_, aN0, h⟩
theorem aLx {x y : Int} (h : C (!decide (x = y))) : CmQ Γ d .NotEq (.int x) (.int y) H C := ⟨_, aN7, h⟩
theorem aVs {x y : Int} (h : C (decide (x < y))) : CmQ Γ d .Lt (.int x) (.int y) H C := ⟨_, aN6, h⟩
theorem aVr {x y : Int} (h : C (decide (y < x))) : CmQ Γ d .Gt (.int x) (.int y) H C := ⟨_, aN3, h⟩
theorem aVq {x y : Int} (h : C (decide (y ≤ x))) : CmQ Γ d .GtE (.int x) (.int y) H C := ⟨_, aN2, h⟩
theorem aJc {x y : Bool} (h : C (x != y)) : CmQ Γ d .NotEq (.bool x) (.bool y) H C := ⟨_, aM0, h⟩
theorem aGa (h : C true) : CmQ Γ d .Is .none .none H C := ⟨_, aFk, h⟩
theorem aHq {x : Str} (h : C false) : CmQ Γ d .Is (.str x) .none H C := ⟨_, aFk, h⟩
theorem aHr (h : C false) : CmQ Γ d .IsNot .none .none H C := ⟨_, aGc, h⟩
theorem aLv {x : Str} {l : List AV} (ha : allStr l = true) (h : C (l.any (isStr x))) : CmQ Γ d .In (.str x) (.tup l) H C := ⟨_, aE9 ha, h⟩
theorem aGb {x : Str} {l : List AV} (ha : allStr l = true) (h : C (!l.any (isStr x))) : CmQ Γ d .NotIn (.str x) (.tup l) H C := ⟨_, aDr ha, h⟩
theorem aCw {l : List Int} : allInt (intL l) = true := by simp [allInt, intL]
theorem aL1 {l : List Int} {x : Int} : (intL l).any (isInt x) = l.any fun y => decide (y = x) := by
 rw [intL, List.any_map]; rfl
theorem aQ5 {l : List (Int × Int)} {x : Int} : ((mapI l).any fun p => decide (p.1 = x)) = l.any fun p => decide (p.1 = x) := by rw [mapI, List.any_map]; rfl
theorem aWc {e : Expr} {Q : Bool → AH → Prop} (h : Ev Γ fc d e ρ H (KVal Q)) (he : ∀ env whole, isTrue e env whole = (do let v ← whole; standAt e.pos; holding [v] (truthy v)) := by intro _ _; rfl) : Tv Γ fc d e ρ H Q := aQ3 h he
theorem aU1 {b : Bool} (h : C b) : ∃ c, Truth H (.bool b) c ∧ C c := ⟨b, rfl, h⟩
theorem aNt {i : Id} {l : List AV} (hi : H i = .live (.lst l)) (hz : l.length ≤ 100000) (h : C (!l.isEmpty)) : ∃ c, Truth H (.ref i) c ∧ C c := ⟨_, ⟨l, hi, hz, rfl⟩, h⟩
theorem bA0 {b : Bool} {A B : Prop} (e : b = true) (h : A) : (b = true → A) ∧ (b = false → B) := ⟨fun _ => h, fun q => absurd (e.symm.trans q) (by decide)⟩
theorem aXy {b : Bool} {A B : Prop} (e : b = false) (h : B) : (b = true → A) ∧ (b = false → B) := ⟨fun q => absurd (e.symm.trans q) (by decide), fun _ => h⟩
theorem aY0 {b : Bool} {A B : Prop} (e : b = true) (h : A) : (b = false → B) ∧ (b = true → A) := ⟨fun q => absurd (e.symm.trans q) (by decide), fun _ => h⟩
theorem aXz {b : Bool} {A B : Prop} (e : b = false) (h : B) : (b = false → B) ∧ (b = true → A) := ⟨fun _ => h, fun q => absurd (e.symm.trans q) (by decide)⟩
theorem aA9 {rest : List Stmt} {Q : AF → Loc → AH → Prop} (h : Exs Γ fc d rest ρ H Q) : After Γ fc d rest Q .next ρ H := h
theorem aMu {rest : List Stmt} {Q : AF → Loc → AH → Prop} {v : AV} (h : Q (.ret v) ρ H) : After Γ fc d rest Q (.ret v) ρ H := h
def RetQ (Q : AV → AH → Prop) : AF → Loc → AH → Prop
 | .ret v, _, H => ∃ H', Le H H' ∧ Q v H'
 | _, _, H => ∃ H', Le H H' ∧ Q .none H'
theorem aA3 {Q : AV → AH → Prop} {v : AV} (h : Q v H) : RetQ Q (.ret v) ρ H := ⟨H, Le.refl, h⟩
theorem aA1 {Q : AV → AH → Prop} (h : Q .none H) : RetQ Q .next ρ H := ⟨H, Le.refl, h⟩
theorem aHv {Q : AV → AH → Prop} {v : AV} {H' : AH} (l : Le H H') (h : Q v H') : RetQ Q (.ret v) ρ H := ⟨H', l, h⟩
theorem aFn {Q : AV → AH → Prop} {H' : AH} (l : Le H H') (h : Q .none H') : RetQ Q .next ρ H := ⟨H', l, h⟩
theorem aAd {Q : AF → Loc → AH → Prop} {N : Loc → AH → Prop} (h : N ρ H) : LoopQ Q N .next ρ H := h
theorem aPq {Q : AF → Loc → AH → Prop} {N : Loc → AH → Prop} {v : AV} (h : Q (.ret v) ρ H) : LoopQ Q N (.ret v) ρ H := h
variable {rest : List Stmt} {Q : AF → Loc → AH → Prop}
abbrev KRet (ρ : Loc) (Q : AF → Loc → AH → Prop) : AV → AH → Prop := fun v H => Q (.ret v) ρ H
abbrev KH (Γ : Cx) (fc : FC) (d : Nat) (rest : List Stmt) (ρ : Loc) (Q : AF → Loc → AH → Prop) : AH → Prop := fun H => Exs Γ fc d rest ρ H Q
abbrev KPut (Γ : Cx) (fc : FC) (d : Nat) (rest : List Stmt) (H : AH) (Q : AF → Loc → AH → Prop) : Loc → Prop := fun ρ => Exs Γ fc d rest ρ H Q
abbrev KIf (Γ : Cx) (fc : FC) (d : Nat) (b o : List Stmt) (ρ : Loc) (Q : AF → Loc → AH → Prop) : Bool → AH → Prop := fun v H => (v = true → Exs Γ fc d b ρ H Q) ∧ (v = false → Exs Γ fc d o ρ H Q)
theorem aEb {e : Expr} {p : Pos} (h : Ev Γ fc d e ρ H (KRet ρ Q)) : Exs Γ fc d (.Return (some e) p :: rest) ρ H Q := aAq (aNg h)
theorem aPm {p : Pos} (h : Q (.ret .none) ρ H) : Exs Γ fc d (.Return none p :: rest) ρ H Q := aAq (aGf h)
def PutQ (x : Str) (v : AV) (ρ : Loc) (C : Loc → Prop) : Prop := ∃ ρ', Put x v ρ ρ' ∧ C ρ'
theorem aJg {x : Str} {v : AV} {ρ ρ' : Loc} {C : Loc → Prop} (hp : Put x v ρ ρ') (h : C ρ') : PutQ x v ρ C := ⟨ρ', hp, h⟩
abbrev KAsg (Γ : Cx) (fc : FC) (d : Nat) (x : Str) (rest : List Stmt) (ρ : Loc) (Q : AF → Loc → AH → Prop) : AV → AH → Prop := fun v H => PutQ x v ρ (KPut Γ fc d rest H Q)
theorem aAw {x : Str} {p1 p : Pos} {e : Expr} (h : Ev Γ fc d e ρ H (KAsg Γ fc d x rest ρ Q))
  (hs : nlc e = true := by exact (rfl : true = true)) : Exs Γ fc d (.Assign [.Name x p1] e p :: rest) ρ H Q := aAq (aNf h (aHi hs _ _))
def DropV (v : AV) (C : Prop) : Prop := (match v with | .none | .int _ | .bool _ | .str _ => True | _ => False) ∧ C
theorem aAj {C : Prop} (h : C) : DropV .none C := ⟨trivial, h⟩
theorem aN9 {C : Prop} {i : Int} (h : C) : DropV (.int i) C := ⟨trivial, h⟩
abbrev KDrop (Γ : Cx) (fc : FC) (d : Nat) (rest : List Stmt) (ρ : Loc) (Q : AF → Loc → AH → Prop) : AV → AH → Prop := fun v H => DropV v (Exs Γ fc d rest ρ H Q)
theorem aD1 {e : Expr} {p : Pos} (h : Ev Γ fc d e ρ H (KDrop Γ fc d rest ρ Q))
  (hi : ∀ L, interactive (fc.env L) = false := by intro; rfl) (hs : nlc e = true := by exact (rfl : true = true)) : Exs Γ fc d (.Expr e p :: rest) ρ H Q := aAq (aTx h hi (aHi hs _ _))
theorem aNj {t : Expr} {b o : List Stmt} {p : Pos} (h : Tv Γ fc d t ρ H (KIf Γ fc d b o ρ (After Γ fc d rest Q))) : Exs Γ fc d (.If t b o p :: rest) ρ H Q := aAq (aZi h)
def SetA (Γ : Cx) (n : Str) (u v : AV) (H : AH) (C : AH → Prop) : Prop :=
 ∃ i C' fs fs', u = .ref i ∧ H i = .live (.ins C' fs) ∧ ClsOk Γ.w.params C' ∧ findIn (K Γ.w.params) (.ref C') n = some none ∧ Nat.ble fs.length 900 = true ∧ Sto n v fs fs' ∧ C (upd H i (.live (.ins C' fs')))
theorem aBj {n : Str} {i : Id} {v : AV} {C' : Addr} {fs fs' : List (Str × AV)} {C : AH → Prop} (hi : H i = .live (.ins C' fs)) (hc : ClsOk Γ.w.params C') (hn : findIn (K Γ.w.params) (.ref C') n = some none) (hz : Nat.ble fs.length 900 = true) (hs : Sto n v fs fs')
  {H' : AH} (he : upd H i (.live (.ins C' fs')) = H') (h : C H') : SetA Γ n (.ref i) v H C := ⟨i, C', fs, fs', rfl, hi, hc, hn, hz, hs, he ▸ h⟩
abbrev KSA2 (Γ : Cx) (n : Str) (v : AV) (C : AH → Prop) : AV → AH → Prop := fun u H => SetA Γ n u v H C
abbrev KSA (Γ : Cx) (fc : FC) (d : Nat) (o : Expr) (n : Str) (ρ : Loc) (C : AH → Prop) : AV → AH → Prop := fun v H => Ev Γ fc d o ρ H (KSA2 Γ n v C)
abbrev KSI3 (Γ : Cx) (d : Nat) (u v : AV) (C : AH → Prop) : AV → AH → Prop := fun k H => Si Γ d u k v H C
abbrev KSI2 (Γ : Cx) (fc : FC) (d : Nat) (i : Expr) (ρ : Loc) (v : AV) (C : AH → Prop) : AV → AH → Prop := fun u H => Ev Γ fc d i ρ H (KSI3 Γ d u v C)
abbrev KSI (Γ : Cx) (fc : FC) (d : Nat) (o i : Expr) (ρ : Loc) (C : AH → Prop) : AV → AH → Prop := fun v H => Ev Γ fc d o ρ H (KSI2 Γ fc d i ρ v C)
abbrev KMin (Γ : Cx) (fc : FC) (d : Nat) (x : Str) (a : Int) (rest : List Stmt) (ρ : Loc) (Q : AF → Loc → AH → Prop) : AV → AH → Prop := fun v H => ∃ b, v = .int b ∧ PutQ x (.int (a - b)) ρ (KPut Γ fc d rest H Q)
abbrev KWhN (I : Nat → Loc → AH → Prop) (n : Nat) : Loc → AH → Prop := fun ρ H => ∃ m, m < n ∧ I m ρ H
abbrev KWh (Γ : Cx) (fc : FC) (d : Nat) (b rest : List Stmt) (I : Nat → Loc → AH → Prop) (n : Nat) (ρ : Loc) (Q : AF → Loc → AH → Prop) : Bool → AH → Prop := fun c H => (c = true → Exs Γ fc d b ρ H (LoopQ (After Γ fc d rest Q) (KWhN I n))) ∧ (c = false → Exs Γ fc d rest ρ H Q)
abbrev KFor (Γ : Cx) (fc : FC) (d : Nat) (tgt : Expr) (b rest : List Stmt) (I : Nat → Loc → AH → Prop) (ρ : Loc) (Q : AF → Loc → AH → Prop) : List AV → (AH → Prop) → AH → Prop := fun items Keep H' => I 0 ρ H' ∧ (∀ k ρ H, I k ρ H → Keep H) ∧
   (∀ k ρ₁ H₁ u, I k ρ₁ H₁ → items[k]? = some u → ∃ ρ₂, As Γ fc tgt u ρ₁ ρ₂ ∧ Exs Γ fc d b ρ₂ H₁ (LoopQ (After Γ fc d rest Q) (I (k + 1)))) ∧
   (∀ ρ₁ H₁, I items.length ρ₁ H₁ → Exs Γ fc d rest ρ₁ H₁ Q)
abbrev KUnp (Γ : Cx) (fc : FC) (d : Nat) (t : Expr) (rest : List Stmt) (ρ : Loc) (Q : AF → Loc → AH → Prop) : AV → AH → Prop := fun v H => ∃ ρ', As Γ fc t v ρ ρ' ∧ Exs Γ fc d rest ρ' H Q
theorem aPn {o e : Expr} {n : Str} {p1 p : Pos} (h : Ev Γ fc d e ρ H (KSA Γ fc d o n ρ (KH Γ fc d rest ρ Q)))
  (hs : nlc e = true := by exact (rfl : true = true)) : Exs Γ fc d (.Assign [.Attribute o n p1] e p :: rest) ρ H Q := aAq (aM1 h (aHi hs _ _))
theorem aPo {o i e : Expr} {p1 p : Pos} (h : Ev Γ fc d e ρ H (KSI Γ fc d o i ρ (KH Γ fc d rest ρ Q)))
  (hs : nlc e = true := by exact (rfl : true = true)) : Exs Γ fc d (.Assign [.Subscript o i p1] e p :: rest) ρ H Q := aAq (aNh h (aHi hs _ _))
theorem aTy {x : Str} {p1 p : Pos} {e : Expr} {a : Int} (hm : Get x (.int a) ρ) (h : Ev Γ fc d e ρ H (KMin Γ fc d x a rest ρ Q)) : Exs Γ fc d (.AugAssign (.Name x p1) .Sub e p :: rest) ρ H Q :=
 aAq (aW0 (.inr rfl) hm.mem (h.mono fun v H' ⟨b, e, ρ', hp, q⟩ => ⟨b, ρ', e, hp, q⟩))
theorem aC6 {t : Expr} {b : List Stmt} {p : Pos} (I : Nat → Loc → AH → Prop) (n : Nat) (h0 : I n ρ H)
  (step : ∀ n ρ H, I n ρ H → Tv Γ fc d t ρ H (KWh Γ fc d b rest I n ρ Q)) : Exs Γ fc d (.While t b [] p :: rest) ρ H Q :=
 aAq (aPl I n h0 step)
theorem aAt {tgt e : Expr} {b : List Stmt} {p : Pos} (I : Nat → Loc → AH → Prop)
  (h : It Γ fc d e tgt ρ H (KFor Γ fc d tgt b rest I ρ Q))
  (hs : ∀ env x, foldedSetIterable e env x = pure x := by intro _ _; rfl) : Exs Γ fc d (.For tgt e b [] p :: rest) ρ H Q := aAq (aW1 I h hs)
theorem aM2 {es : List Expr} {k : Nat} {tp p : Pos} {e : Expr} (h : Ev Γ fc d e ρ H (KUnp Γ fc d (.Tuple es k tp) rest ρ Q))
  (hs : ∀ env, swapsWithSole [.Tuple es k tp] e p.line env = pure false := by intro; rfl) (hw : ∀ env, swappedStores [.Tuple es k tp] e env = pure none := by intro; rfl) : Exs Γ fc d (.Assign [.Tuple es k tp] e p :: rest) ρ H Q := aAq (aNi h hs hw)
theorem aLp {φ : Mp} {h : Heap} : ∀ {names : List Str} {args : List AV} {xs : List Value}, VRs φ h args xs → names.Nodup → ∀ x v, (x, v) ∈ names.zip args → ∃ y, (names.zip xs).reverse.lookup x = some y ∧ VR φ h v y
 | [], _, _, _, _, x, v, hm => by simp at hm
 | _ :: _, [], _, r, _, x, v, hm => by simp at hm
 | n :: names, a :: args, _, r, nd, x, v, hm => by
  cases r with
  | @cons _ y _ ys ra r =>
   rw [List.zip_cons_cons] at hm
   rw [List.nodup_cons] at nd
   rw [List.zip_cons_cons, List.reverse_cons, List.lookup_append]
   cases hm with
   | head =>
    refine ⟨y, ?_, ra⟩
    have : (names.zip ys).reverse.lookup n = none := by
     rw [List.lookup_eq_none_iff]
     intro p hp
     rw [List.mem_reverse] at hp
     have h1 := (List.of_mem_zip hp).1
     simp only [bne_iff_ne, ne_eq]
     rintro rfl
     exact nd.1 h1
    rw [this]; simp [List.lookup]
   | tail _ hm =>
    obtain ⟨z, h1, h2⟩ := aLp r nd.2 x v hm
    exact ⟨z, by rw [h1]; rfl, h2⟩
theorem bindsP {K : Frag} {s : Shared} {fd : FuncData} {args : Args} {binds : List (Str × Value)} (X : K.In s.heap) (e : ∀ S, peek K S (bindArgs fd args) = some binds) : BindsTo s fd args binds :=
 fun M _ _ _ q => (Looks.of_peek (M := M) X (e _)).here q
theorem aTk {f : Addr} {args : List AV} {Q : AV → AH → Prop} {name qual : Str} {params : Arguments} {body : List Stmt} {scope : Scope} {dV kV doc pm cdv ct oc : Value} {an od : Option Addr} {osl : Array (Option Value)}
  (ho : (K Γ.w.params).lookup f = some ⟨oc, od, .func (fnOf name qual params body scope dV kV doc pm an cdv ct), osl⟩) (hcd : codeIn (K Γ.w.params) cdv qual = true)
  (names others : List Str) (dargs : List AV) (dvals : List Value)
  (hbind : ∀ (s : Shared) (xs : List Value), (K Γ.w.params).In s.heap → xs.length = args.length → BindsTo s (fnOf name qual params body scope dV kV doc pm an cdv ct) ⟨xs, []⟩ (names.zip (xs ++ dvals)))
  (hd : ∀ (h : Heap) (φ : Mp), (K Γ.w.params).In h → VRs φ h dargs dvals)
  (hnd : decide ((names ++ others).Nodup) = true) (hloc : ((names ++ others).all fun x => decide (scope.names.lookup x = some .local)) = true)
  (hcell : (scope.names.all fun x => decide (x.2 ≠ .cell)) = true) (hk : scope.kind = .function) (hco : scope.isCoroutine = false) (hgen : scope.isGenerator = false) (hdb : scope.names.lookup ("__debug__" : Str) = none)
  (ρ₀ : Loc) (hρ : ρ₀ = (names.zip (args ++ dargs)).map (fun p => (p.1, some p.2)) ++ others.map fun x => (x, none))
  (h : Plain (fnF qual scope f cdv) → Exs Γ (fnF qual scope f cdv) d body ρ₀ H (RetQ Q)) : Cd Γ (d + 1) (.ref f) args H Q := by
 subst hρ
 have nd := of_decide_eq_true hnd
 have loc : ∀ x ∈ names ++ others, scope.names.lookup x = some .local := fun x hx => of_decide_eq_true (List.all_eq_true.mp hloc x hx)
 have nd1 : names.Nodup := (List.nodup_append.mp nd).1
 have key : ∀ p ∈ (names.zip (args ++ dargs)).map (fun p => (p.1, some p.2)) ++ others.map (fun x => (x, none)), p.1 ∈ names ++ others := by
  intro p hp
  rw [List.mem_append] at hp
  rcases hp with hp | hp
  ·obtain ⟨q, h1, rfl⟩ := List.mem_map.mp hp
   exact List.mem_append_left _ (List.of_mem_zip h1).1
  ·obtain ⟨q, h1, rfl⟩ := List.mem_map.mp hp
   exact List.mem_append_right _ h1
 have sub : ((names.zip (args ++ dargs)).map (·.1)).Sublist names := by
  have : ∀ (l : List Str) (k : List AV), ((l.zip k).map (·.1)).Sublist l := by
   intro l
   induction l with
   | nil => intro k; simp
   | cons a l ih =>
    intro k
    cases k with
    | nil => simp
    | cons b k => rw [List.zip_cons_cons, List.map_cons]; exact (ih k).cons_cons a
  exact this _ _
 refine aVk ho hcd ((names.zip (args ++ dargs)).map (fun p => (p.1, some p.2)) ++ others.map fun x => (x, none)) (fun s φ xs X r => ⟨names.zip (xs ++ dvals), hbind s xs X r.length, fun y hy => loc _ (List.mem_append_left _ (List.of_mem_zip hy).1), fun x v hx => ?_⟩) ?_ (fun p hp => loc _ (key p hp)) (fun x hx => of_decide_eq_true (List.all_eq_true.mp hcell x hx)) hk hco hgen ?_
 ·refine aLp (r.append (hd s.heap φ X)) nd1 x v ?_
  rw [List.mem_append] at hx
  rcases hx with hx | hx
  ·obtain ⟨q, h1, h2⟩ := List.mem_map.mp hx
   simp only [Prod.mk.injEq, Option.some.injEq] at h2
   rw [← h2.1, ← h2.2]; exact h1
  ·obtain ⟨q, h1, h2⟩ := List.mem_map.mp hx
   simp at h2
 ·rw [List.map_append, List.map_map, List.map_map]
  have e2 : (others.map ((fun p : Str × Option AV => p.1) ∘ fun x => (x, none))) = others := by
   rw [show ((fun p : Str × Option AV => p.1) ∘ fun x => (x, none)) = id from rfl, List.map_id]
  rw [e2]
  have e1 : (names.zip (args ++ dargs)).map ((fun p : Str × Option AV => p.1) ∘ fun p => (p.1, some p.2)) = (names.zip (args ++ dargs)).map (·.1) := rfl
  rw [e1]
  exact nd.sublist (sub.append (List.Sublist.refl _))
 ·refine (h ⟨hdb⟩).out fun fl ρ' H' q => ?_
  cases fl <;> obtain ⟨H'', l, q⟩ := q <;> exact ⟨H'', l, q⟩
def LenAll : Nat → (List Value → Prop) → Prop
 | 0, P => P []
 | n + 1, P => ∀ a, LenAll n fun xs => P (a :: xs)
theorem LenAll.all : ∀ {n : Nat} {P : List Value → Prop}, LenAll n P → ∀ xs : List Value, xs.length = n → P xs
 | 0, P, h, xs, e => List.length_eq_zero_iff.mp e ▸ h
 | n + 1, P, h, [], e => nomatch e
 | n + 1, P, h, a :: xs, e => LenAll.all (h a) xs (Nat.succ.inj e)
noncomputable def opOk (scope : Scope) (names others : List Str) : Bool :=
 decide ((names ++ others).Nodup) && (((names ++ others).all fun x => decide (scope.names.lookup x = some .local)) && ((scope.names.all fun x => decide (x.2 ≠ .cell)) && (!scope.isCoroutine && (!scope.isGenerator && (scope.names.lookup ("__debug__" : Str)).isNone))))
theorem aVl {a c : Addr} {args : List AV} {Q : AV → AH → Prop} {name qual : Str} (st : Stmt) {dV pm : Value}
  (ho : (K Γ.w.params).lookup a = some ⟨.type "function", none, .func (fnOf name qual (argsS st) (bodyS st) (scopeS st) dV .none .none pm none (.ref c) .none), [].toArray⟩) (hcd : codeIn (K Γ.w.params) (.ref c) qual = true) (hk : (scopeS st).kind = .function)
  (names others : List Str) (dargs : List AV) (dvals : List Value) (ok : opOk (scopeS st) names others = true)
  (hbind : ∀ s : Shared, (K Γ.w.params).In s.heap → LenAll args.length fun xs => BindsTo s (fnOf name qual (argsS st) (bodyS st) (scopeS st) dV .none .none pm none (.ref c) .none) ⟨xs, []⟩ (names.zip (xs ++ dvals)))
  (hd : ∀ (h : Heap) (φ : Mp), (K Γ.w.params).In h → VRs φ h dargs dvals)
  (ρ₀ : Loc) (hρ : ρ₀ = (names.zip (args ++ dargs)).map (fun p => (p.1, some p.2)) ++ others.map fun x => (x, none))
  (h : Plain (fnF qual (scopeS st) a (.ref c)) → Exs Γ (fnF qual (scopeS st) a (.ref c)) d (bodyS st) ρ₀ H (RetQ Q)) : Cd Γ (d + 1) (.ref a) args H Q := by
 unfold opOk at ok
 simp only [Bool.and_eq_true, Bool.not_eq_true', Option.isNone_iff_eq_none] at ok
 obtain ⟨o1, o2, o3, o4, o5, o6⟩ := ok
 exact aTk ho hcd names others dargs dvals (fun s xs X e => (hbind s X).all xs e) hd o1 o2 o3 hk o4 o5 o6 ρ₀ hρ h
end
end
section
set_option maxRecDepth 100000
noncomputable section
section
variable {Γ : Cx} {d : Nat} {H : AH} {Q : AV → AH → Prop} {P : Params}
abbrev Op (fc : FC) (st : Stmt) (ρ : Loc) (f : Nat) (vs : List AV) : Prop := ∀ {Γ : Cx} {d : Nat} {H : AH} {Q : AV → AH → Prop}, (Plain fc → Exs Γ fc d (bodyS st) ρ H (RetQ Q)) → Cd Γ (d + 1) (.ref f) vs H Q
theorem nlV {P : Frag} (h : Heap) (φ : Mp) (_ : P.In h) : VRs φ h [] [] := .nil
theorem aAo (n : String) (dV : Value) (m : String) (t : Nat) {a c : Addr} {args : List AV} {qual : Str} {st : Stmt}
 (ho : (K Γ.w.params).lookup a = some ⟨.type "function", none, .func (fnOf (oS n) qual (argsS st) (bodyS st) (scopeS st) dV .none .none (.str (oS m) t) none (.ref c) .none), [].toArray⟩) (hcd : codeIn (K Γ.w.params) (.ref c) qual = true) (hk : (scopeS st).kind = .function)
 (names others : List String) (dargs : List AV) (dvals : List Value) (ok : opOk (scopeS st) (names.map oS) (others.map oS) = true)
 (hbind : ∀ s : Shared, (K Γ.w.params).In s.heap → LenAll args.length fun xs => BindsTo s (fnOf (oS n) qual (argsS st) (bodyS st) (scopeS st) dV .none .none (.str (oS m) t) none (.ref c) .none) ⟨xs, []⟩ ((names.map oS).zip (xs ++ dvals)))
 (hd : ∀ (h : Heap) (φ : Mp), (K Γ.w.params).In h → VRs φ h dargs dvals) {ρ₀ : Loc} (hρ : ρ₀ = ((names.map oS).zip (args ++ dargs)).map (fun p => (p.1, some p.2)) ++ (others.map oS).map fun x => (x, none))
 (h : Plain (fnF qual (scopeS st) a (.ref c)) → Exs Γ (fnF qual (scopeS st) a (.ref c)) d (bodyS st) ρ₀ H (RetQ Q)) : Cd Γ (d + 1) (.ref a) args H Q :=
 aVl st ho hcd hk _ _ dargs dvals ok hbind hd ρ₀ hρ h
theorem aNz : ClsOk P 239 := ⟨⋯, ⋯, ⋯, ⋯, ⋯⟩
theorem aY7 : makesIn (K P) 239 = true := ⋯
theorem aO0 : ClsOk P 510 := ⟨⋯, ⋯, ⋯, ⋯, ⋯⟩
theorem aY8 : makesIn (K P) 510 = true := ⋯
theorem aCt : ClsOk P 634 := ⟨⋯, ⋯, ⋯, ⋯, ⋯⟩
theorem aY9 : makesIn (K P) 634 = true := ⋯
theorem aAn : ClsOk P 712 := ⟨⋯, ⋯, ⋯, ⋯, ⋯⟩
theorem aYa : makesIn (K P) 712 = true := ⋯
abbrev fc_28 : FC := fnF (oS "is_space") (scopeS (stAt 2)) 28 (.ref 27)
theorem aZr : FnG P (oS "is_space") 28 := ⟨⋯, ⋯⟩
theorem aUz {v0 : AV} : Op fc_28 (stAt 2) [(oS "c", some v0)] 28 [v0] :=
 fun h => aAo "is_space" .none "htmltree.signs" 194 ⋯ ⋯ ⋯ ["c"] [] [] [] ⋯ (fun s X _ => bindsP X fun S => ⋯) nlV ⋯ h
abbrev fc_35 : FC := fnF (oS "is_upper") (scopeS (stAt 3)) 35 (.ref 34)
theorem aZs : FnG P (oS "is_upper") 35 := ⟨⋯, ⋯⟩
theorem aV0 {v0 : AV} : Op fc_35 (stAt 3) [(oS "c", some v0)] 35 [v0] :=
 fun h => aAo "is_upper" .none "htmltree.signs" 194 ⋯ ⋯ ⋯ ["c"] [] [] [] ⋯ (fun s X _ => bindsP X fun S => ⋯) nlV ⋯ h
abbrev fc_42 : FC := fnF (oS "lower") (scopeS (stAt 4)) 42 (.ref 41)
theorem aZt : FnG P (oS "lower") 42 := ⟨⋯, ⋯⟩
theorem aV1 {v0 : AV} : Op fc_42 (stAt 4) [(oS "c", some v0)] 42 [v0] :=
 fun h => aAo "lower" .none "htmltree.signs" 194 ⋯ ⋯ ⋯ ["c"] [] [] [] ⋯ (fun s X _ => bindsP X fun S => ⋯) nlV ⋯ h
abbrev fc_49 : FC := fnF (oS "lower_text") (scopeS (stAt 5)) 49 (.ref 48)
theorem aZu : FnG P (oS "lower_text") 49 := ⟨⋯, ⋯⟩
theorem aV2 {v0 : AV} : Op fc_49 (stAt 5) [(oS "text", some v0), (oS "out", none), (oS "c", none)] 49 [v0] :=
 fun h => aAo "lower_text" .none "htmltree.signs" 194 ⋯ ⋯ ⋯ ["text"] ["out", "c"] [] [] ⋯ (fun s X _ => bindsP X fun S => ⋯) nlV ⋯ h
abbrev fc_56 : FC := fnF (oS "is_table_part") (scopeS (stAt 7)) 56 (.ref 55)
theorem aZv : FnG P (oS "is_table_part") 56 := ⟨⋯, ⋯⟩
theorem aV3 {v0 : AV} : Op fc_56 (stAt 7) [(oS "name", some v0)] 56 [v0] :=
 fun h => aAo "is_table_part" .none "htmltree.names" 226 ⋯ ⋯ ⋯ ["name"] [] [] [] ⋯ (fun s X _ => bindsP X fun S => ⋯) nlV ⋯ h
abbrev fc_77 : FC := fnF (oS "foster_place") (scopeS (stAt 11)) 77 (.ref 76)
theorem aZw : FnG P (oS "foster_place") 77 := ⟨⋯, ⋯⟩
theorem aV4 {v0 : AV} : Op fc_77 (stAt 11) [(oS "builder", some v0), (oS "tree", none), (oS "items", none), (oS "at", none), (oS "node", none)] 77 [v0] :=
 fun h => aAo "foster_place" .none "htmltree.inserting" 252 ⋯ ⋯ ⋯ ["builder"] ["tree", "items", "at", "node"] [] [] ⋯ (fun s X _ => bindsP X fun S => ⋯) nlV ⋯ h
abbrev fc_85 : FC := fnF (oS "place_for") (scopeS (stAt 12)) 85 (.ref 84)
theorem aZx : FnG P (oS "place_for") 85 := ⟨⋯, ⋯⟩
theorem aV5 {v0 : AV} : Op fc_85 (stAt 12) [(oS "builder", some v0), (oS "target", some (.int (-1))), (oS "tree", none), (oS "here", none), (oS "before", none)] 85 [v0] :=
 fun h => aAo "place_for" (.ref 78) "htmltree.inserting" 252 ⋯ ⋯ ⋯ ["builder", "target"] ["tree", "here", "before"] [.int (-1)] [(.int (-1) 266)] ⋯ (fun s X _ => bindsP X fun S => ⋯) (fun h φ X => .cons (.int _ _) (.nil)) ⋯ h
abbrev fc_92 : FC := fnF (oS "insert_sign") (scopeS (stAt 13)) 92 (.ref 91)
theorem aZy : FnG P (oS "insert_sign") 92 := ⟨⋯, ⋯⟩
theorem aP2 {v0 v1 : AV} : Op fc_92 (stAt 13) [(oS "builder", some v0), (oS "sign", some v1), (oS "tree", none), (oS "parent", none), (oS "before", none), (oS "ahead", none), (oS "at", none)] 92 [v0, v1] :=
 fun h => aAo "insert_sign" .none "htmltree.inserting" 252 ⋯ ⋯ ⋯ ["builder", "sign"] ["tree", "parent", "before", "ahead", "at"] [] [] ⋯ (fun s X _ _ => bindsP X fun S => ⋯) nlV ⋯ h
abbrev fc_100 : FC := fnF (oS "insert_comment") (scopeS (stAt 14)) 100 (.ref 99)
theorem aWs : FnG P (oS "insert_comment") 100 := ⟨⋯, ⋯⟩
theorem aR1 {v0 v1 : AV} : Op fc_100 (stAt 14) [(oS "builder", some v0), (oS "text", some v1), (oS "parent", some (.int (-1))), (oS "before", none)] 100 [v0, v1] :=
 fun h => aAo "insert_comment" (.ref 93) "htmltree.inserting" 252 ⋯ ⋯ ⋯ ["builder", "text", "parent"] ["before"] [.int (-1)] [(.int (-1) 292)] ⋯ (fun s X _ _ => bindsP X fun S => ⋯) (fun h φ X => .cons (.int _ _) (.nil)) ⋯ h
abbrev fc_108 : FC := fnF (oS "make") (scopeS (stAt 15)) 108 (.ref 107)
theorem aWt : FnG P (oS "make") 108 := ⟨⋯, ⋯⟩
theorem aR2 {v0 v1 v2 : AV} : Op fc_108 (stAt 15) [(oS "builder", some v0), (oS "name", some v1), (oS "attrs", some v2), (oS "space", some (.str "html"))] 108 [v0, v1, v2] :=
 fun h => aAo "make" (.ref 101) "htmltree.inserting" 252 ⋯ ⋯ ⋯ ["builder", "name", "attrs", "space"] [] [.str "html"] [(.str "html" 303)] ⋯ (fun s X _ _ _ => bindsP X fun S => ⋯) (fun h φ X => .cons (.str _ _) (.nil)) ⋯ h
theorem aR3 {v0 v1 v2 v3 : AV} : Op fc_108 (stAt 15) [(oS "builder", some v0), (oS "name", some v1), (oS "attrs", some v2), (oS "space", some v3)] 108 [v0, v1, v2, v3] :=
 fun h => aAo "make" (.ref 101) "htmltree.inserting" 252 ⋯ ⋯ ⋯ ["builder", "name", "attrs", "space"] [] [] [] ⋯ (fun s X _ _ _ _ => bindsP X fun S => ⋯) nlV ⋯ h
abbrev fc_117 : FC := fnF (oS "insert_element") (scopeS (stAt 16)) 117 (.ref 116)
theorem aWu : FnG P (oS "insert_element") 117 := ⟨⋯, ⋯⟩
theorem aR4 {v0 v1 : AV} : Op fc_117 (stAt 16) [(oS "builder", some v0), (oS "name", some v1), (oS "attrs", some (.tup [])), (oS "space", some (.str "html")), (oS "parent", none), (oS "before", none), (oS "node", none)] 117 [v0, v1] :=
 fun h => aAo "insert_element" (.ref 110) "htmltree.inserting" 252 ⋯ ⋯ ⋯ ["builder", "name", "attrs", "space"] ["parent", "before", "node"] [.tup [], .str "html"] [(.ref 109), (.str "html" 314)] ⋯ (fun s X _ _ => bindsP X fun S => ⋯) (fun h φ X => .cons (.tup (X _ _ (show (K _).lookup 109 = some (tupO (List.toArray []) 0) from ⋯)) .nil) (.cons (.str _ _) (.nil))) ⋯ h
theorem aR5 {v0 v1 v2 : AV} : Op fc_117 (stAt 16) [(oS "builder", some v0), (oS "name", some v1), (oS "attrs", some v2), (oS "space", some (.str "html")), (oS "parent", none), (oS "before", none), (oS "node", none)] 117 [v0, v1, v2] :=
 fun h => aAo "insert_element" (.ref 110) "htmltree.inserting" 252 ⋯ ⋯ ⋯ ["builder", "name", "attrs", "space"] ["parent", "before", "node"] [.str "html"] [(.str "html" 314)] ⋯ (fun s X _ _ _ => bindsP X fun S => ⋯) (fun h φ X => .cons (.str _ _) (.nil)) ⋯ h
abbrev fc_124 : FC := fnF (oS "insert_token") (scopeS (stAt 17)) 124 (.ref 123)
theorem aWv : FnG P (oS "insert_token") 124 := ⟨⋯, ⋯⟩
theorem aR6 {v0 v1 : AV} : Op fc_124 (stAt 17) [(oS "builder", some v0), (oS "token", some v1), (oS "node", none)] 124 [v0, v1] :=
 fun h => aAo "insert_token" .none "htmltree.inserting" 252 ⋯ ⋯ ⋯ ["builder", "token"] ["node"] [] [] ⋯ (fun s X _ _ => bindsP X fun S => ⋯) nlV ⋯ h
abbrev fc_131 : FC := fnF (oS "insert_void") (scopeS (stAt 18)) 131 (.ref 130)
theorem aWw : FnG P (oS "insert_void") 131 := ⟨⋯, ⋯⟩
theorem aLa {v0 v1 : AV} : Op fc_131 (stAt 18) [(oS "builder", some v0), (oS "token", some v1), (oS "node", none)] 131 [v0, v1] :=
 fun h => aAo "insert_void" .none "htmltree.inserting" 252 ⋯ ⋯ ⋯ ["builder", "token"] ["node"] [] [] ⋯ (fun s X _ _ => bindsP X fun S => ⋯) nlV ⋯ h
abbrev fc_138 : FC := fnF (oS "associate") (scopeS (stAt 19)) 138 (.ref 137)
theorem aWx : FnG P (oS "associate") 138 := ⟨⋯, ⋯⟩
theorem aR7 {v0 v1 : AV} : Op fc_138 (stAt 19) [(oS "builder", some v0), (oS "node", some v1), (oS "tree", none), (oS "name", none)] 138 [v0, v1] :=
 fun h => aAo "associate" .none "htmltree.inserting" 252 ⋯ ⋯ ⋯ ["builder", "node"] ["tree", "name"] [] [] ⋯ (fun s X _ _ => bindsP X fun S => ⋯) nlV ⋯ h
abbrev fc_152 : FC := fnF (oS "OpenStack.__init__") (scopeS (mtAt 21 0)) 152 (.ref 151)
theorem aY1 : findIn (K P) (.ref 239) "__init__" = some (some (.ref 152)) := ⋯
theorem aZ8 : typeIn (K P) (.ref 152) = some (.type "function") := ⋯
theorem aR8 {v0 v1 : AV} : Op fc_152 (mtAt 21 0) [(oS "self", some v0), (oS "tree", some v1)] 152 [v0, v1] :=
 fun h => aAo "__init__" .none "htmltree.openstack" 356 ⋯ ⋯ ⋯ ["self", "tree"] [] [] [] ⋯ (fun s X _ _ => bindsP X fun S => ⋯) nlV ⋯ h
abbrev fc_159 : FC := fnF (oS "OpenStack.push") (scopeS (mtAt 21 1)) 159 (.ref 158)
theorem aYb : MthOk P 239 (oS "push") 159 := ⟨⋯, ⋯, ⋯⟩
theorem aR9 {v0 v1 : AV} : Op fc_159 (mtAt 21 1) [(oS "self", some v0), (oS "node", some v1)] 159 [v0, v1] :=
 fun h => aAo "push" .none "htmltree.openstack" 356 ⋯ ⋯ ⋯ ["self", "node"] [] [] [] ⋯ (fun s X _ _ => bindsP X fun S => ⋯) nlV ⋯ h
abbrev fc_166 : FC := fnF (oS "OpenStack.pop") (scopeS (mtAt 21 2)) 166 (.ref 165)
theorem aYc : MthOk P 239 (oS "pop") 166 := ⟨⋯, ⋯, ⋯⟩
theorem aRa {v0 : AV} : Op fc_166 (mtAt 21 2) [(oS "self", some v0)] 166 [v0] :=
 fun h => aAo "pop" .none "htmltree.openstack" 356 ⋯ ⋯ ⋯ ["self"] [] [] [] ⋯ (fun s X _ => bindsP X fun S => ⋯) nlV ⋯ h
abbrev fc_173 : FC := fnF (oS "OpenStack.current") (scopeS (mtAt 21 3)) 173 (.ref 172)
theorem aYd : MthOk P 239 (oS "current") 173 := ⟨⋯, ⋯, ⋯⟩
theorem aRb {v0 : AV} : Op fc_173 (mtAt 21 3) [(oS "self", some v0)] 173 [v0] :=
 fun h => aAo "current" .none "htmltree.openstack" 356 ⋯ ⋯ ⋯ ["self"] [] [] [] ⋯ (fun s X _ => bindsP X fun S => ⋯) nlV ⋯ h
abbrev fc_180 : FC := fnF (oS "OpenStack.many") (scopeS (mtAt 21 4)) 180 (.ref 179)
theorem aYe : MthOk P 239 (oS "many") 180 := ⟨⋯, ⋯, ⋯⟩
theorem aRc {v0 : AV} : Op fc_180 (mtAt 21 4) [(oS "self", some v0)] 180 [v0] :=
 fun h => aAo "many" .none "htmltree.openstack" 356 ⋯ ⋯ ⋯ ["self"] [] [] [] ⋯ (fun s X _ => bindsP X fun S => ⋯) nlV ⋯ h
abbrev fc_215 : FC := fnF (oS "OpenStack.name") (scopeS (mtAt 21 9)) 215 (.ref 214)
theorem aYf : MthOk P 239 (oS "name") 215 := ⟨⋯, ⋯, ⋯⟩
theorem aRd {v0 : AV} : Op fc_215 (mtAt 21 9) [(oS "self", some v0), (oS "node", none)] 215 [v0] :=
 fun h => aAo "name" .none "htmltree.openstack" 356 ⋯ ⋯ ⋯ ["self"] ["node"] [] [] ⋯ (fun s X _ => bindsP X fun S => ⋯) nlV ⋯ h
abbrev fc_222 : FC := fnF (oS "OpenStack.has_name") (scopeS (mtAt 21 10)) 222 (.ref 221)
theorem aYg : MthOk P 239 (oS "has_name") 222 := ⟨⋯, ⋯, ⋯⟩
theorem aRe {v0 v1 : AV} : Op fc_222 (mtAt 21 10) [(oS "self", some v0), (oS "name", some v1), (oS "node", none)] 222 [v0, v1] :=
 fun h => aAo "has_name" .none "htmltree.openstack" 356 ⋯ ⋯ ⋯ ["self", "name"] ["node"] [] [] ⋯ (fun s X _ _ => bindsP X fun S => ⋯) nlV ⋯ h
abbrev fc_229 : FC := fnF (oS "OpenStack.pop_until") (scopeS (mtAt 21 11)) 229 (.ref 228)
theorem aYh : MthOk P 239 (oS "pop_until") 229 := ⟨⋯, ⋯, ⋯⟩
theorem aRf {v0 v1 : AV} : Op fc_229 (mtAt 21 11) [(oS "self", some v0), (oS "names", some v1), (oS "name", none), (oS "node", none)] 229 [v0, v1] :=
 fun h => aAo "pop_until" .none "htmltree.openstack" 356 ⋯ ⋯ ⋯ ["self", "names"] ["name", "node"] [] [] ⋯ (fun s X _ _ => bindsP X fun S => ⋯) nlV ⋯ h
abbrev fc_236 : FC := fnF (oS "OpenStack.pop_to") (scopeS (mtAt 21 12)) 236 (.ref 235)
theorem aYi : MthOk P 239 (oS "pop_to") 236 := ⟨⋯, ⋯, ⋯⟩
theorem aRg {v0 v1 : AV} : Op fc_236 (mtAt 21 12) [(oS "self", some v0), (oS "names", some v1)] 236 [v0, v1] :=
 fun h => aAo "pop_to" .none "htmltree.openstack" 356 ⋯ ⋯ ⋯ ["self", "names"] [] [] [] ⋯ (fun s X _ _ => bindsP X fun S => ⋯) nlV ⋯ h
abbrev fc_258 : FC := fnF (oS "in_scope") (scopeS (stAt 23)) 258 (.ref 257)
theorem aWy : FnG P (oS "in_scope") 258 := ⟨⋯, ⋯⟩
theorem aRh {v0 v1 v2 : AV} : Op fc_258 (stAt 23) [(oS "stack", some v0), (oS "names", some v1), (oS "sort", some v2), (oS "tree", none), (oS "at", none), (oS "node", none)] 258 [v0, v1, v2] :=
 fun h => aAo "in_scope" (.ref 251) "htmltree.openstack" 356 ⋯ ⋯ ⋯ ["stack", "names", "sort"] ["tree", "at", "node"] [] [] ⋯ (fun s X _ _ _ => bindsP X fun S => ⋯) nlV ⋯ h
abbrev fc_265 : FC := fnF (oS "mode_of") (scopeS (stAt 25)) 265 (.ref 264)
theorem aWz : FnG P (oS "mode_of") 265 := ⟨⋯, ⋯⟩
theorem aRi {v0 : AV} : Op fc_265 (stAt 25) [(oS "name", some v0), (oS "table", none)] 265 [v0] :=
 fun h => aAo "mode_of" .none "htmltree.reset" 509 ⋯ ⋯ ⋯ ["name"] ["table"] [] [] ⋯ (fun s X _ => bindsP X fun S => ⋯) nlV ⋯ h
abbrev fc_279 : FC := fnF (oS "mode_for") (scopeS (stAt 27)) 279 (.ref 278)
theorem aX0 : FnG P (oS "mode_for") 279 := ⟨⋯, ⋯⟩
theorem aRj {v0 v1 v2 : AV} : Op fc_279 (stAt 27) [(oS "builder", some v0), (oS "node", some v1), (oS "at", some v2), (oS "name", none)] 279 [v0, v1, v2] :=
 fun h => aAo "mode_for" .none "htmltree.reset" 509 ⋯ ⋯ ⋯ ["builder", "node", "at"] ["name"] [] [] ⋯ (fun s X _ _ _ => bindsP X fun S => ⋯) nlV ⋯ h
abbrev fc_286 : FC := fnF (oS "reset_mode") (scopeS (stAt 28)) 286 (.ref 285)
theorem aX1 : FnG P (oS "reset_mode") 286 := ⟨⋯, ⋯⟩
theorem aRk {v0 : AV} : Op fc_286 (stAt 28) [(oS "builder", some v0), (oS "at", none), (oS "mode", none), (oS "node", none)] 286 [v0] :=
 fun h => aAo "reset_mode" .none "htmltree.reset" 509 ⋯ ⋯ ⋯ ["builder"] ["at", "mode", "node"] [] [] ⋯ (fun s X _ => bindsP X fun S => ⋯) nlV ⋯ h
abbrev fc_293 : FC := fnF (oS "value_of") (scopeS (stAt 30)) 293 (.ref 292)
theorem aX2 : FnG P (oS "value_of") 293 := ⟨⋯, ⋯⟩
theorem aRl {v0 v1 : AV} : Op fc_293 (stAt 30) [(oS "token", some v0), (oS "name", some v1), (oS "pair", none)] 293 [v0, v1] :=
 fun h => aAo "value_of" .none "htmltree.tokens" 548 ⋯ ⋯ ⋯ ["token", "name"] ["pair"] [] [] ⋯ (fun s X _ _ => bindsP X fun S => ⋯) nlV ⋯ h
abbrev fc_300 : FC := fnF (oS "is_space_token") (scopeS (stAt 31)) 300 (.ref 299)
theorem aX3 : FnG P (oS "is_space_token") 300 := ⟨⋯, ⋯⟩
theorem aRm {v0 : AV} : Op fc_300 (stAt 31) [(oS "token", some v0)] 300 [v0] :=
 fun h => aAo "is_space_token" .none "htmltree.tokens" 548 ⋯ ⋯ ⋯ ["token"] [] [] [] ⋯ (fun s X _ => bindsP X fun S => ⋯) nlV ⋯ h
abbrev fc_307 : FC := fnF (oS "pop_to_table") (scopeS (stAt 33)) 307 (.ref 306)
theorem aX4 : FnG P (oS "pop_to_table") 307 := ⟨⋯, ⋯⟩
theorem aRn {v0 : AV} : Op fc_307 (stAt 33) [(oS "builder", some v0)] 307 [v0] :=
 fun h => aAo "pop_to_table" .none "htmltree.tablemodes" 566 ⋯ ⋯ ⋯ ["builder"] [] [] [] ⋯ (fun s X _ => bindsP X fun S => ⋯) nlV ⋯ h
abbrev fc_314 : FC := fnF (oS "outside_table") (scopeS (stAt 34)) 314 (.ref 313)
theorem aX5 : FnG P (oS "outside_table") 314 := ⟨⋯, ⋯⟩
theorem aRo {v0 v1 : AV} : Op fc_314 (stAt 34) [(oS "builder", some v0), (oS "token", some v1)] 314 [v0, v1] :=
 fun h => aAo "outside_table" .none "htmltree.tablemodes" 566 ⋯ ⋯ ⋯ ["builder", "token"] [] [] [] ⋯ (fun s X _ _ => bindsP X fun S => ⋯) nlV ⋯ h
abbrev fc_321 : FC := fnF (oS "close_table") (scopeS (stAt 35)) 321 (.ref 320)
theorem aX6 : FnG P (oS "close_table") 321 := ⟨⋯, ⋯⟩
theorem aRp {v0 : AV} : Op fc_321 (stAt 35) [(oS "builder", some v0)] 321 [v0] :=
 fun h => aAo "close_table" .none "htmltree.tablemodes" 566 ⋯ ⋯ ⋯ ["builder"] [] [] [] ⋯ (fun s X _ => bindsP X fun S => ⋯) nlV ⋯ h
abbrev fc_328 : FC := fnF (oS "open_part") (scopeS (stAt 36)) 328 (.ref 327)
theorem aX7 : FnG P (oS "open_part") 328 := ⟨⋯, ⋯⟩
theorem aRq {v0 v1 : AV} : Op fc_328 (stAt 36) [(oS "builder", some v0), (oS "token", some v1), (oS "name", none)] 328 [v0, v1] :=
 fun h => aAo "open_part" .none "htmltree.tablemodes" 566 ⋯ ⋯ ⋯ ["builder", "token"] ["name"] [] [] ⋯ (fun s X _ _ => bindsP X fun S => ⋯) nlV ⋯ h
abbrev fc_342 : FC := fnF (oS "input_in_table") (scopeS (stAt 38)) 342 (.ref 341)
theorem aX8 : FnG P (oS "input_in_table") 342 := ⟨⋯, ⋯⟩
theorem aHb {v0 v1 : AV} : Op fc_342 (stAt 38) [(oS "builder", some v0), (oS "token", some v1), (oS "sort", none)] 342 [v0, v1] :=
 fun h => aAo "input_in_table" .none "htmltree.tablemodes" 566 ⋯ ⋯ ⋯ ["builder", "token"] ["sort"] [] [] ⋯ (fun s X _ _ => bindsP X fun S => ⋯) nlV ⋯ h
abbrev fc_349 : FC := fnF (oS "form_in_table") (scopeS (stAt 39)) 349 (.ref 348)
theorem aX9 : FnG P (oS "form_in_table") 349 := ⟨⋯, ⋯⟩
theorem aLb {v0 v1 : AV} : Op fc_349 (stAt 39) [(oS "builder", some v0), (oS "token", some v1)] 349 [v0, v1] :=
 fun h => aAo "form_in_table" .none "htmltree.tablemodes" 566 ⋯ ⋯ ⋯ ["builder", "token"] [] [] [] ⋯ (fun s X _ _ => bindsP X fun S => ⋯) nlV ⋯ h
abbrev fc_356 : FC := fnF (oS "start_in_table") (scopeS (stAt 40)) 356 (.ref 355)
theorem aXa : FnG P (oS "start_in_table") 356 := ⟨⋯, ⋯⟩
theorem aDd {v0 v1 : AV} : Op fc_356 (stAt 40) [(oS "builder", some v0), (oS "token", some v1), (oS "name", none)] 356 [v0, v1] :=
 fun h => aAo "start_in_table" .none "htmltree.tablemodes" 566 ⋯ ⋯ ⋯ ["builder", "token"] ["name"] [] [] ⋯ (fun s X _ _ => bindsP X fun S => ⋯) nlV ⋯ h
abbrev fc_363 : FC := fnF (oS "end_in_table") (scopeS (stAt 41)) 363 (.ref 362)
theorem aXb : FnG P (oS "end_in_table") 363 := ⟨⋯, ⋯⟩
theorem aE2 {v0 v1 : AV} : Op fc_363 (stAt 41) [(oS "builder", some v0), (oS "token", some v1), (oS "name", none)] 363 [v0, v1] :=
 fun h => aAo "end_in_table" .none "htmltree.tablemodes" 566 ⋯ ⋯ ⋯ ["builder", "token"] ["name"] [] [] ⋯ (fun s X _ _ => bindsP X fun S => ⋯) nlV ⋯ h
abbrev fc_370 : FC := fnF (oS "sign_in_table") (scopeS (stAt 42)) 370 (.ref 369)
theorem aXc : FnG P (oS "sign_in_table") 370 := ⟨⋯, ⋯⟩
theorem aLc {v0 v1 : AV} : Op fc_370 (stAt 42) [(oS "builder", some v0), (oS "token", some v1)] 370 [v0, v1] :=
 fun h => aAo "sign_in_table" .none "htmltree.tablemodes" 566 ⋯ ⋯ ⋯ ["builder", "token"] [] [] [] ⋯ (fun s X _ _ => bindsP X fun S => ⋯) nlV ⋯ h
abbrev fc_377 : FC := fnF (oS "in_table") (scopeS (stAt 43)) 377 (.ref 376)
theorem aXd : FnG P (oS "in_table") 377 := ⟨⋯, ⋯⟩
theorem aCl {v0 v1 : AV} : Op fc_377 (stAt 43) [(oS "builder", some v0), (oS "token", some v1), (oS "kind", none)] 377 [v0, v1] :=
 fun h => aAo "in_table" .none "htmltree.tablemodes" 566 ⋯ ⋯ ⋯ ["builder", "token"] ["kind"] [] [] ⋯ (fun s X _ _ => bindsP X fun S => ⋯) nlV ⋯ h
abbrev fc_384 : FC := fnF (oS "flush_pending") (scopeS (stAt 44)) 384 (.ref 383)
theorem aXe : FnG P (oS "flush_pending") 384 := ⟨⋯, ⋯⟩
theorem aRr {v0 : AV} : Op fc_384 (stAt 44) [(oS "builder", some v0), (oS "pending", none), (oS "is_blank", none), (oS "each", none)] 384 [v0] :=
 fun h => aAo "flush_pending" .none "htmltree.tablemodes" 566 ⋯ ⋯ ⋯ ["builder"] ["pending", "is_blank", "each"] [] [] ⋯ (fun s X _ => bindsP X fun S => ⋯) nlV ⋯ h
abbrev fc_391 : FC := fnF (oS "in_table_text") (scopeS (stAt 45)) 391 (.ref 390)
theorem aXf : FnG P (oS "in_table_text") 391 := ⟨⋯, ⋯⟩
theorem aHc {v0 v1 : AV} : Op fc_391 (stAt 45) [(oS "builder", some v0), (oS "token", some v1)] 391 [v0, v1] :=
 fun h => aAo "in_table_text" .none "htmltree.tablemodes" 566 ⋯ ⋯ ⋯ ["builder", "token"] [] [] [] ⋯ (fun s X _ _ => bindsP X fun S => ⋯) nlV ⋯ h
abbrev fc_398 : FC := fnF (oS "table_rules") (scopeS (stAt 46)) 398 (.ref 397)
theorem aXg : FnG P (oS "table_rules") 398 := ⟨⋯, ⋯⟩
theorem aRs  (h : Plain fc_398 → Exs Γ fc_398 d (bodyS (stAt 46)) [] H (RetQ Q)) : Cd Γ (d + 1) (.ref 398) [] H Q :=
 aVl (name := oS "table_rules") (dV := .none) (pm := (.str "htmltree.tablemodes" 566)) (stAt 46) ⋯ ⋯ ⋯ [] [] [] [] ⋯ (fun s X => bindsP X fun S => ⋯) (fun _ _ _ => .nil) _ ⋯ h
abbrev fc_444 : FC := fnF (oS "Formatting.__init__") (scopeS (mtAt 51 0)) 444 (.ref 443)
theorem aY2 : findIn (K P) (.ref 510) "__init__" = some (some (.ref 444)) := ⋯
theorem aZ9 : typeIn (K P) (.ref 444) = some (.type "function") := ⋯
theorem aRt {v0 v1 : AV} : Op fc_444 (mtAt 51 0) [(oS "self", some v0), (oS "tree", some v1)] 444 [v0, v1] :=
 fun h => aAo "__init__" .none "htmltree.formatting" 730 ⋯ ⋯ ⋯ ["self", "tree"] [] [] [] ⋯ (fun s X _ _ => bindsP X fun S => ⋯) nlV ⋯ h
abbrev fc_535 : FC := fnF (oS "Tree.__init__") (scopeS (mtAt 54 0)) 535 (.ref 534)
theorem aY3 : findIn (K P) (.ref 634) "__init__" = some (some (.ref 535)) := ⋯
theorem aZa : typeIn (K P) (.ref 535) = some (.type "function") := ⋯
theorem aRu {v0 : AV} : Op fc_535 (mtAt 54 0) [(oS "self", some v0)] 535 [v0] :=
 fun h => aAo "__init__" .none "htmltree.tree" 847 ⋯ ⋯ ⋯ ["self"] [] [] [] ⋯ (fun s X _ => bindsP X fun S => ⋯) nlV ⋯ h
abbrev fc_544 : FC := fnF (oS "Tree.add") (scopeS (mtAt 54 1)) 544 (.ref 543)
theorem aTe : MthOk P 634 (oS "add") 544 := ⟨⋯, ⋯, ⋯⟩
theorem aLd {v0 v1 : AV} : Op fc_544 (mtAt 54 1) [(oS "self", some v0), (oS "kind", some v1), (oS "space", some (.str "")), (oS "name", some (.str "")), (oS "attrs", some (.tup [])), (oS "text", some (.str ""))] 544 [v0, v1] :=
 fun h => aAo "add" (.ref 537) "htmltree.tree" 847 ⋯ ⋯ ⋯ ["self", "kind", "space", "name", "attrs", "text"] [] [.str "", .str "", .tup [], .str ""] [(.str "" 868), (.str "" 869), (.ref 536), (.str "" 870)] ⋯ (fun s X _ _ => bindsP X fun S => ⋯) (fun h φ X => .cons (.str _ _) (.cons (.str _ _) (.cons (.tup (X _ _ (show (K _).lookup 536 = some (tupO (List.toArray []) 0) from ⋯)) .nil) (.cons (.str _ _) (.nil))))) ⋯ h
theorem aRv {v0 v1 v2 v3 v4 : AV} : Op fc_544 (mtAt 54 1) [(oS "self", some v0), (oS "kind", some v1), (oS "space", some v2), (oS "name", some v3), (oS "attrs", some v4), (oS "text", some (.str ""))] 544 [v0, v1, v2, v3, v4] :=
 fun h => aAo "add" (.ref 537) "htmltree.tree" 847 ⋯ ⋯ ⋯ ["self", "kind", "space", "name", "attrs", "text"] [] [.str ""] [(.str "" 870)] ⋯ (fun s X _ _ _ _ _ => bindsP X fun S => ⋯) (fun h φ X => .cons (.str _ _) (.nil)) ⋯ h
theorem aRw {v0 v1 v2 v3 v4 v5 : AV} : Op fc_544 (mtAt 54 1) [(oS "self", some v0), (oS "kind", some v1), (oS "space", some v2), (oS "name", some v3), (oS "attrs", some v4), (oS "text", some v5)] 544 [v0, v1, v2, v3, v4, v5] :=
 fun h => aAo "add" (.ref 537) "htmltree.tree" 847 ⋯ ⋯ ⋯ ["self", "kind", "space", "name", "attrs", "text"] [] [] [] ⋯ (fun s X _ _ _ _ _ _ => bindsP X fun S => ⋯) nlV ⋯ h
abbrev fc_553 : FC := fnF (oS "Tree.element") (scopeS (mtAt 54 2)) 553 (.ref 552)
theorem aYj : MthOk P 634 (oS "element") 553 := ⟨⋯, ⋯, ⋯⟩
theorem aLe {v0 v1 v2 v3 : AV} : Op fc_553 (mtAt 54 2) [(oS "self", some v0), (oS "name", some v1), (oS "space", some v2), (oS "attrs", some v3), (oS "node", none)] 553 [v0, v1, v2, v3] :=
 fun h => aAo "element" (.ref 546) "htmltree.tree" 847 ⋯ ⋯ ⋯ ["self", "name", "space", "attrs"] ["node"] [] [] ⋯ (fun s X _ _ _ _ => bindsP X fun S => ⋯) nlV ⋯ h
abbrev fc_560 : FC := fnF (oS "Tree.text") (scopeS (mtAt 54 3)) 560 (.ref 559)
theorem aYk : MthOk P 634 (oS "text") 560 := ⟨⋯, ⋯, ⋯⟩
theorem aRx {v0 v1 : AV} : Op fc_560 (mtAt 54 3) [(oS "self", some v0), (oS "text", some v1)] 560 [v0, v1] :=
 fun h => aAo "text" .none "htmltree.tree" 847 ⋯ ⋯ ⋯ ["self", "text"] [] [] [] ⋯ (fun s X _ _ => bindsP X fun S => ⋯) nlV ⋯ h
abbrev fc_567 : FC := fnF (oS "Tree.comment") (scopeS (mtAt 54 4)) 567 (.ref 566)
theorem aYl : MthOk P 634 (oS "comment") 567 := ⟨⋯, ⋯, ⋯⟩
theorem aRy {v0 v1 : AV} : Op fc_567 (mtAt 54 4) [(oS "self", some v0), (oS "text", some v1)] 567 [v0, v1] :=
 fun h => aAo "comment" .none "htmltree.tree" 847 ⋯ ⋯ ⋯ ["self", "text"] [] [] [] ⋯ (fun s X _ _ => bindsP X fun S => ⋯) nlV ⋯ h
abbrev fc_582 : FC := fnF (oS "Tree.insert") (scopeS (mtAt 54 6)) 582 (.ref 581)
theorem aYm : MthOk P 634 (oS "insert") 582 := ⟨⋯, ⋯, ⋯⟩
theorem aRz {v0 v1 v2 : AV} : Op fc_582 (mtAt 54 6) [(oS "self", some v0), (oS "parent", some v1), (oS "node", some v2), (oS "before", some (.int (-1))), (oS "at", none)] 582 [v0, v1, v2] :=
 fun h => aAo "insert" (.ref 575) "htmltree.tree" 847 ⋯ ⋯ ⋯ ["self", "parent", "node", "before"] ["at"] [.int (-1)] [(.int (-1) 922)] ⋯ (fun s X _ _ _ => bindsP X fun S => ⋯) (fun h φ X => .cons (.int _ _) (.nil)) ⋯ h
theorem aS0 {v0 v1 v2 v3 : AV} : Op fc_582 (mtAt 54 6) [(oS "self", some v0), (oS "parent", some v1), (oS "node", some v2), (oS "before", some v3), (oS "at", none)] 582 [v0, v1, v2, v3] :=
 fun h => aAo "insert" (.ref 575) "htmltree.tree" 847 ⋯ ⋯ ⋯ ["self", "parent", "node", "before"] ["at"] [] [] ⋯ (fun s X _ _ _ _ => bindsP X fun S => ⋯) nlV ⋯ h
abbrev fc_589 : FC := fnF (oS "Tree.append") (scopeS (mtAt 54 7)) 589 (.ref 588)
theorem aYn : MthOk P 634 (oS "append") 589 := ⟨⋯, ⋯, ⋯⟩
theorem aS1 {v0 v1 v2 : AV} : Op fc_589 (mtAt 54 7) [(oS "self", some v0), (oS "parent", some v1), (oS "node", some v2)] 589 [v0, v1, v2] :=
 fun h => aAo "append" .none "htmltree.tree" 847 ⋯ ⋯ ⋯ ["self", "parent", "node"] [] [] [] ⋯ (fun s X _ _ _ => bindsP X fun S => ⋯) nlV ⋯ h
abbrev fc_596 : FC := fnF (oS "Tree.remove") (scopeS (mtAt 54 8)) 596 (.ref 595)
theorem aYo : MthOk P 634 (oS "remove") 596 := ⟨⋯, ⋯, ⋯⟩
theorem aS2 {v0 v1 : AV} : Op fc_596 (mtAt 54 8) [(oS "self", some v0), (oS "node", some v1)] 596 [v0, v1] :=
 fun h => aAo "remove" .none "htmltree.tree" 847 ⋯ ⋯ ⋯ ["self", "node"] [] [] [] ⋯ (fun s X _ _ => bindsP X fun S => ⋯) nlV ⋯ h
abbrev fc_610 : FC := fnF (oS "Tree.place") (scopeS (mtAt 54 10)) 610 (.ref 609)
theorem aYp : MthOk P 634 (oS "place") 610 := ⟨⋯, ⋯, ⋯⟩
theorem aS3 {v0 v1 : AV} : Op fc_610 (mtAt 54 10) [(oS "self", some v0), (oS "node", some v1)] 610 [v0, v1] :=
 fun h => aAo "place" .none "htmltree.tree" 847 ⋯ ⋯ ⋯ ["self", "node"] [] [] [] ⋯ (fun s X _ _ => bindsP X fun S => ⋯) nlV ⋯ h
abbrev fc_617 : FC := fnF (oS "Tree.last") (scopeS (mtAt 54 11)) 617 (.ref 616)
theorem aYq : MthOk P 634 (oS "last") 617 := ⟨⋯, ⋯, ⋯⟩
theorem aS4 {v0 v1 : AV} : Op fc_617 (mtAt 54 11) [(oS "self", some v0), (oS "parent", some v1)] 617 [v0, v1] :=
 fun h => aAo "last" .none "htmltree.tree" 847 ⋯ ⋯ ⋯ ["self", "parent"] [] [] [] ⋯ (fun s X _ _ => bindsP X fun S => ⋯) nlV ⋯ h
abbrev fc_624 : FC := fnF (oS "Tree.value") (scopeS (mtAt 54 12)) 624 (.ref 623)
theorem aYr : MthOk P 634 (oS "value") 624 := ⟨⋯, ⋯, ⋯⟩
theorem aS5 {v0 v1 v2 : AV} : Op fc_624 (mtAt 54 12) [(oS "self", some v0), (oS "node", some v1), (oS "name", some v2), (oS "pair", none)] 624 [v0, v1, v2] :=
 fun h => aAo "value" .none "htmltree.tree" 847 ⋯ ⋯ ⋯ ["self", "node", "name"] ["pair"] [] [] ⋯ (fun s X _ _ _ => bindsP X fun S => ⋯) nlV ⋯ h
abbrev fc_631 : FC := fnF (oS "Tree.is_html") (scopeS (mtAt 54 13)) 631 (.ref 630)
theorem aYs : MthOk P 634 (oS "is_html") 631 := ⟨⋯, ⋯, ⋯⟩
theorem aS6 {v0 v1 v2 : AV} : Op fc_631 (mtAt 54 13) [(oS "self", some v0), (oS "node", some v1), (oS "name", some v2)] 631 [v0, v1, v2] :=
 fun h => aAo "is_html" .none "htmltree.tree" 847 ⋯ ⋯ ⋯ ["self", "node", "name"] [] [] [] ⋯ (fun s X _ _ _ => bindsP X fun S => ⋯) nlV ⋯ h
abbrev fc_645 : FC := fnF (oS "above") (scopeS (stAt 55)) 645 (.ref 644)
theorem aXh : FnG P (oS "above") 645 := ⟨⋯, ⋯⟩
theorem aS7 {v0 v1 : AV} : Op fc_645 (stAt 55) [(oS "tree", some v0), (oS "node", some v1), (oS "out", none), (oS "up", none)] 645 [v0, v1] :=
 fun h => aAo "above" .none "htmltree.tree" 847 ⋯ ⋯ ⋯ ["tree", "node"] ["out", "up"] [] [] ⋯ (fun s X _ _ => bindsP X fun S => ⋯) nlV ⋯ h
abbrev fc_660 : FC := fnF (oS "Builder.__init__") (scopeS (mtAt 57 0)) 660 (.ref 659)
theorem aY4 : findIn (K P) (.ref 712) "__init__" = some (some (.ref 660)) := ⋯
theorem aZb : typeIn (K P) (.ref 660) = some (.type "function") := ⋯
theorem aS8 {v0 v1 : AV} : Op fc_660 (mtAt 57 0) [(oS "self", some v0), (oS "rules", some v1), (oS "is_scripting", some (.bool false))] 660 [v0, v1] :=
 fun h => aAo "__init__" (.ref 653) "htmltree.builder" 1021 ⋯ ⋯ ⋯ ["self", "rules", "is_scripting"] [] [.bool false] [(.bool false)] ⋯ (fun s X _ _ => bindsP X fun S => ⋯) (fun h φ X => .cons (.bool _) (.nil)) ⋯ h
abbrev fc_667 : FC := fnF (oS "Builder.error") (scopeS (mtAt 57 1)) 667 (.ref 666)
theorem aYt : MthOk P 712 (oS "error") 667 := ⟨⋯, ⋯, ⋯⟩
theorem aS9 {v0 v1 : AV} : Op fc_667 (mtAt 57 1) [(oS "self", some v0), (oS "word", some v1)] 667 [v0, v1] :=
 fun h => aAo "error" .none "htmltree.builder" 1021 ⋯ ⋯ ⋯ ["self", "word"] [] [] [] ⋯ (fun s X _ _ => bindsP X fun S => ⋯) nlV ⋯ h
abbrev fc_674 : FC := fnF (oS "Builder.to") (scopeS (mtAt 57 2)) 674 (.ref 673)
theorem aYu : MthOk P 712 (oS "to") 674 := ⟨⋯, ⋯, ⋯⟩
theorem aSa {v0 v1 : AV} : Op fc_674 (mtAt 57 2) [(oS "self", some v0), (oS "mode", some v1)] 674 [v0, v1] :=
 fun h => aAo "to" .none "htmltree.builder" 1021 ⋯ ⋯ ⋯ ["self", "mode"] [] [] [] ⋯ (fun s X _ _ => bindsP X fun S => ⋯) nlV ⋯ h
abbrev fc_681 : FC := fnF (oS "Builder.use") (scopeS (mtAt 57 3)) 681 (.ref 680)
theorem aYv : MthOk P 712 (oS "use") 681 := ⟨⋯, ⋯, ⋯⟩
theorem aSb {v0 v1 v2 : AV} : Op fc_681 (mtAt 57 3) [(oS "self", some v0), (oS "name", some v1), (oS "token", some v2), (oS "rule", none)] 681 [v0, v1, v2] :=
 fun h => aAo "use" .none "htmltree.builder" 1021 ⋯ ⋯ ⋯ ["self", "name", "token"] ["rule"] [] [] ⋯ (fun s X _ _ _ => bindsP X fun S => ⋯) nlV ⋯ h
abbrev fc_688 : FC := fnF (oS "Builder.process") (scopeS (mtAt 57 4)) 688 (.ref 687)
theorem aYw : MthOk P 712 (oS "process") 688 := ⟨⋯, ⋯, ⋯⟩
theorem aSc {v0 v1 : AV} : Op fc_688 (mtAt 57 4) [(oS "self", some v0), (oS "token", some v1)] 688 [v0, v1] :=
 fun h => aAo "process" .none "htmltree.builder" 1021 ⋯ ⋯ ⋯ ["self", "token"] [] [] [] ⋯ (fun s X _ _ => bindsP X fun S => ⋯) nlV ⋯ h
abbrev fc_695 : FC := fnF (oS "Builder.feed") (scopeS (mtAt 57 5)) 695 (.ref 694)
theorem aYx : MthOk P 712 (oS "feed") 695 := ⟨⋯, ⋯, ⋯⟩
theorem aLf {v0 v1 : AV} : Op fc_695 (mtAt 57 5) [(oS "self", some v0), (oS "token", some v1)] 695 [v0, v1] :=
 fun h => aAo "feed" .none "htmltree.builder" 1021 ⋯ ⋯ ⋯ ["self", "token"] [] [] [] ⋯ (fun s X _ _ => bindsP X fun S => ⋯) nlV ⋯ h
abbrev fc_702 : FC := fnF (oS "Builder.adjusted") (scopeS (mtAt 57 6)) 702 (.ref 701)
theorem aYy : MthOk P 712 (oS "adjusted") 702 := ⟨⋯, ⋯, ⋯⟩
theorem aSd {v0 : AV} : Op fc_702 (mtAt 57 6) [(oS "self", some v0)] 702 [v0] :=
 fun h => aAo "adjusted" .none "htmltree.builder" 1021 ⋯ ⋯ ⋯ ["self"] [] [] [] ⋯ (fun s X _ => bindsP X fun S => ⋯) nlV ⋯ h
abbrev fc_709 : FC := fnF (oS "Builder.is_foreign") (scopeS (mtAt 57 7)) 709 (.ref 708)
theorem aYz : MthOk P 712 (oS "is_foreign") 709 := ⟨⋯, ⋯, ⋯⟩
theorem aSe {v0 : AV} : Op fc_709 (mtAt 57 7) [(oS "self", some v0), (oS "node", none)] 709 [v0] :=
 fun h => aAo "is_foreign" .none "htmltree.builder" 1021 ⋯ ⋯ ⋯ ["self"] ["node"] [] [] ⋯ (fun s X _ => bindsP X fun S => ⋯) nlV ⋯ h
abbrev fc_723 : FC := fnF (oS "is_html_turn") (scopeS (stAt 58)) 723 (.ref 722)
theorem aXi : FnG P (oS "is_html_turn") 723 := ⟨⋯, ⋯⟩
theorem aSf {v0 v1 : AV} : Op fc_723 (stAt 58) [(oS "builder", some v0), (oS "token", some v1), (oS "tree", none), (oS "node", none)] 723 [v0, v1] :=
 fun h => aAo "is_html_turn" .none "htmltree.builder" 1021 ⋯ ⋯ ⋯ ["builder", "token"] ["tree", "node"] [] [] ⋯ (fun s X _ _ => bindsP X fun S => ⋯) nlV ⋯ h
abbrev fc_731 : FC := fnF (oS "ready") (scopeS (stAt 60)) 731 (.ref 730)
theorem aXj : FnG P (oS "ready") 731 := ⟨⋯, ⋯⟩
theorem aSg {v0 : AV} : Op fc_731 (stAt 60) [(oS "builder", some v0), (oS "mode", some (.str "in body")), (oS "root", none), (oS "body", none)] 731 [v0] :=
 fun h => aAo "ready" (.ref 724) "htmltree.ready" 1140 ⋯ ⋯ ⋯ ["builder", "mode"] ["root", "body"] [.str "in body"] [(.str "in body" 1142)] ⋯ (fun s X _ => bindsP X fun S => ⋯) (fun h φ X => .cons (.str _ _) (.nil)) ⋯ h
abbrev fc_738 : FC := fnF (oS "_law_digit") (scopeS (stAt 62)) 738 (.ref 737)
theorem aXk : FnG P (oS "_law_digit") 738 := ⟨⋯, ⋯⟩
theorem aSh {v0 v1 : AV} : Op fc_738 (stAt 62) [(oS "script", some v0), (oS "at", some v1)] 738 [v0, v1] :=
 fun h => aAo "_law_digit" .none "law_nt0622_01" 1153 ⋯ ⋯ ⋯ ["script", "at"] [] [] [] ⋯ (fun s X _ _ => bindsP X fun S => ⋯) nlV ⋯ h
abbrev fc_745 : FC := fnF (oS "_law_body") (scopeS (stAt 63)) 745 (.ref 744)
theorem aXl : FnG P (oS "_law_body") 745 := ⟨⋯, ⋯⟩
theorem aBl {v0 v1 : AV} : Op fc_745 (stAt 63) [(oS "builder", some v0), (oS "token", some v1)] 745 [v0, v1] :=
 fun h => aAo "_law_body" .none "law_nt0622_01" 1153 ⋯ ⋯ ⋯ ["builder", "token"] [] [] [] ⋯ (fun s X _ _ => bindsP X fun S => ⋯) nlV ⋯ h
abbrev fc_752 : FC := fnF (oS "_law_head") (scopeS (stAt 64)) 752 (.ref 751)
theorem aXm : FnG P (oS "_law_head") 752 := ⟨⋯, ⋯⟩
theorem aLg {v0 v1 : AV} : Op fc_752 (stAt 64) [(oS "builder", some v0), (oS "token", some v1)] 752 [v0, v1] :=
 fun h => aAo "_law_head" .none "law_nt0622_01" 1153 ⋯ ⋯ ⋯ ["builder", "token"] [] [] [] ⋯ (fun s X _ _ => bindsP X fun S => ⋯) nlV ⋯ h
abbrev fc_759 : FC := fnF (oS "_law_part") (scopeS (stAt 65)) 759 (.ref 758)
theorem aXn : FnG P (oS "_law_part") 759 := ⟨⋯, ⋯⟩
theorem aE3 {v0 v1 : AV} : Op fc_759 (stAt 65) [(oS "builder", some v0), (oS "token", some v1)] 759 [v0, v1] :=
 fun h => aAo "_law_part" .none "law_nt0622_01" 1153 ⋯ ⋯ ⋯ ["builder", "token"] [] [] [] ⋯ (fun s X _ _ => bindsP X fun S => ⋯) nlV ⋯ h
abbrev fc_771 : FC := fnF (oS "_law_signs") (scopeS (stAt 67)) 771 (.ref 770)
theorem aXo : FnG P (oS "_law_signs") 771 := ⟨⋯, ⋯⟩
theorem aSi {v0 : AV} : Op fc_771 (stAt 67) [(oS "number", some v0), (oS "signs", none), (oS "rest", none), (oS "out", none), (oS "_", none)] 771 [v0] :=
 fun h => aAo "_law_signs" .none "law_nt0622_01" 1153 ⋯ ⋯ ⋯ ["number"] ["signs", "rest", "out", "_"] [] [] ⋯ (fun s X _ => bindsP X fun S => ⋯) nlV ⋯ h
abbrev fc_778 : FC := fnF (oS "_law_put") (scopeS (stAt 68)) 778 (.ref 777)
theorem aXp : FnG P (oS "_law_put") 778 := ⟨⋯, ⋯⟩
theorem aSj {v0 v1 : AV} : Op fc_778 (stAt 68) [(oS "kids", some v0), (oS "sign", some v1)] 778 [v0, v1] :=
 fun h => aAo "_law_put" .none "law_nt0622_01" 1153 ⋯ ⋯ ⋯ ["kids", "sign"] [] [] [] ⋯ (fun s X _ _ => bindsP X fun S => ⋯) nlV ⋯ h
abbrev fc_785 : FC := fnF (oS "_law_read") (scopeS (stAt 69)) 785 (.ref 784)
theorem aXq : FnG P (oS "_law_read") 785 := ⟨⋯, ⋯⟩
theorem aSk {v0 v1 : AV} : Op fc_785 (stAt 69) [(oS "state", some v0), (oS "signs", some v1), (oS "sign", none)] 785 [v0, v1] :=
 fun h => aAo "_law_read" .none "law_nt0622_01" 1153 ⋯ ⋯ ⋯ ["state", "signs"] ["sign"] [] [] ⋯ (fun s X _ _ => bindsP X fun S => ⋯) nlV ⋯ h
abbrev fc_790 : FC := fnF (oS "_law_settle") (scopeS (stAt 70)) 790 (.ref 789)
theorem aXr : FnG P (oS "_law_settle") 790 := ⟨⋯, ⋯⟩
theorem aSl {v0 v1 : AV} : Op fc_790 (stAt 70) [(oS "state", some v0), (oS "within", some v1), (oS "run", none), (oS "sign", none)] 790 [v0, v1] :=
 fun h => aAo "_law_settle" .none "law_nt0622_01" 1153 ⋯ ⋯ ⋯ ["state", "within"] ["run", "sign"] [] [] ⋯ (fun s X _ _ => bindsP X fun S => ⋯) nlV ⋯ h
abbrev fc_797 : FC := fnF (oS "_law_start") (scopeS (stAt 71)) 797 (.ref 796)
theorem aXs : FnG P (oS "_law_start") 797 := ⟨⋯, ⋯⟩
theorem aSm {v0 v1 v2 v3 v4 : AV} : Op fc_797 (stAt 71) [(oS "state", some v0), (oS "name", some v1), (oS "attrs", some v2), (oS "kids", some v3), (oS "is_closing", some v4), (oS "pairs", none)] 797 [v0, v1, v2, v3, v4] :=
 fun h => aAo "_law_start" .none "law_nt0622_01" 1153 ⋯ ⋯ ⋯ ["state", "name", "attrs", "kids", "is_closing"] ["pairs"] [] [] ⋯ (fun s X _ _ _ _ _ => bindsP X fun S => ⋯) nlV ⋯ h
abbrev fc_804 : FC := fnF (oS "_law_taken") (scopeS (stAt 72)) 804 (.ref 803)
theorem aXt : FnG P (oS "_law_taken") 804 := ⟨⋯, ⋯⟩
theorem aSn {v0 v1 v2 v3 v4 : AV} : Op fc_804 (stAt 72) [(oS "state", some v0), (oS "sort", some v1), (oS "rest", some v2), (oS "mode", some v3), (oS "within", some v4), (oS "tokens", none), (oS "errors", none), (oS "names", none)] 804 [v0, v1, v2, v3, v4] :=
 fun h => aAo "_law_taken" .none "law_nt0622_01" 1153 ⋯ ⋯ ⋯ ["state", "sort", "rest", "mode", "within"] ["tokens", "errors", "names"] [] [] ⋯ (fun s X _ _ _ _ _ => bindsP X fun S => ⋯) nlV ⋯ h
abbrev fc_811 : FC := fnF (oS "_law_fostered") (scopeS (stAt 73)) 811 (.ref 810)
theorem aXu : FnG P (oS "_law_fostered") 811 := ⟨⋯, ⋯⟩
theorem aSo {v0 v1 v2 v3 : AV} : Op fc_811 (stAt 73) [(oS "state", some v0), (oS "sort", some v1), (oS "rest", some v2), (oS "mode", some v3), (oS "errors", none), (oS "attrs", none), (oS "sign", none)] 811 [v0, v1, v2, v3] :=
 fun h => aAo "_law_fostered" .none "law_nt0622_01" 1153 ⋯ ⋯ ⋯ ["state", "sort", "rest", "mode"] ["errors", "attrs", "sign"] [] [] ⋯ (fun s X _ _ _ _ => bindsP X fun S => ⋯) nlV ⋯ h
abbrev fc_818 : FC := fnF (oS "_law_gap") (scopeS (stAt 74)) 818 (.ref 817)
theorem aXv : FnG P (oS "_law_gap") 818 := ⟨⋯, ⋯⟩
theorem aSp {v0 v1 v2 v3 v4 : AV} : Op fc_818 (stAt 74) [(oS "state", some v0), (oS "script", some v1), (oS "at", some v2), (oS "mode", some v3), (oS "within", some v4), (oS "number", none), (oS "sort", none)] 818 [v0, v1, v2, v3, v4] :=
 fun h => aAo "_law_gap" .none "law_nt0622_01" 1153 ⋯ ⋯ ⋯ ["state", "script", "at", "mode", "within"] ["number", "sort"] [] [] ⋯ (fun s X _ _ _ _ _ => bindsP X fun S => ⋯) nlV ⋯ h
theorem aWj : FnG P (oS "OpenStack") 239 := ⟨⋯, ⋯⟩
theorem aWk : FnG P (oS "Formatting") 510 := ⟨⋯, ⋯⟩
theorem aWl : FnG P (oS "Tree") 634 := ⟨⋯, ⋯⟩
theorem aWm : FnG P (oS "Builder") 712 := ⟨⋯, ⋯⟩
inductive Fg0T : Str → Addr → Prop
 | c28 : Fg0T (oS "is_space") 28
 | c35 : Fg0T (oS "is_upper") 35
 | c42 : Fg0T (oS "lower") 42
 | c49 : Fg0T (oS "lower_text") 49
 | c56 : Fg0T (oS "is_table_part") 56
 | c77 : Fg0T (oS "foster_place") 77
 | c85 : Fg0T (oS "place_for") 85
 | c92 : Fg0T (oS "insert_sign") 92
theorem fgT0 {x : Str} {f : Addr} (h : Fg0T x f) : FnG P x f := @Fg0T.rec (fun x f _ => FnG P x f) aZr aZs aZt aZu aZv aZw aZx aZy x f h
inductive Fg1T : Str → Addr → Prop
 | c100 : Fg1T (oS "insert_comment") 100
 | c108 : Fg1T (oS "make") 108
 | c117 : Fg1T (oS "insert_element") 117
 | c124 : Fg1T (oS "insert_token") 124
 | c131 : Fg1T (oS "insert_void") 131
 | c138 : Fg1T (oS "associate") 138
 | c258 : Fg1T (oS "in_scope") 258
 | c265 : Fg1T (oS "mode_of") 265
theorem fgT1 {x : Str} {f : Addr} (h : Fg1T x f) : FnG P x f := @Fg1T.rec (fun x f _ => FnG P x f) aWs aWt aWu aWv aWw aWx aWy aWz x f h
inductive Fg2T : Str → Addr → Prop
 | c279 : Fg2T (oS "mode_for") 279
 | c286 : Fg2T (oS "reset_mode") 286
 | c293 : Fg2T (oS "value_of") 293
 | c300 : Fg2T (oS "is_space_token") 300
 | c307 : Fg2T (oS "pop_to_table") 307
 | c314 : Fg2T (oS "outside_table") 314
 | c321 : Fg2T (oS "close_table") 321
 | c328 : Fg2T (oS "open_part") 328
theorem fgT2 {x : Str} {f : Addr} (h : Fg2T x f) : FnG P x f := @Fg2T.rec (fun x f _ => FnG P x f) aX0 aX1 aX2 aX3 aX4 aX5 aX6 aX7 x f h
inductive Fg3T : Str → Addr → Prop
 | c342 : Fg3T (oS "input_in_table") 342
 | c349 : Fg3T (oS "form_in_table") 349
 | c356 : Fg3T (oS "start_in_table") 356
 | c363 : Fg3T (oS "end_in_table") 363
 | c370 : Fg3T (oS "sign_in_table") 370
 | c377 : Fg3T (oS "in_table") 377
 | c384 : Fg3T (oS "flush_pending") 384
 | c391 : Fg3T (oS "in_table_text") 391
theorem fgT3 {x : Str} {f : Addr} (h : Fg3T x f) : FnG P x f := @Fg3T.rec (fun x f _ => FnG P x f) aX8 aX9 aXa aXb aXc aXd aXe aXf x f h
inductive Fg4T : Str → Addr → Prop
 | c398 : Fg4T (oS "table_rules") 398
 | c645 : Fg4T (oS "above") 645
 | c723 : Fg4T (oS "is_html_turn") 723
 | c731 : Fg4T (oS "ready") 731
 | c738 : Fg4T (oS "_law_digit") 738
 | c745 : Fg4T (oS "_law_body") 745
 | c752 : Fg4T (oS "_law_head") 752
 | c759 : Fg4T (oS "_law_part") 759
theorem fgT4 {x : Str} {f : Addr} (h : Fg4T x f) : FnG P x f := @Fg4T.rec (fun x f _ => FnG P x f) aXg aXh aXi aXj aXk aXl aXm aXn x f h
inductive Fg5T : Str → Addr → Prop
 | c771 : Fg5T (oS "_law_signs") 771
 | c778 : Fg5T (oS "_law_put") 778
 | c785 : Fg5T (oS "_law_read") 785
 | c790 : Fg5T (oS "_law_settle") 790
 | c797 : Fg5T (oS "_law_start") 797
 | c804 : Fg5T (oS "_law_taken") 804
 | c811 : Fg5T (oS "_law_fostered") 811
 | c818 : Fg5T (oS "_law_gap") 818
theorem fgT5 {x : Str} {f : Addr} (h : Fg5T x f) : FnG P x f := @Fg5T.rec (fun x f _ => FnG P x f) aXo aXp aXq aXr aXs aXt aXu aXv x f h
inductive Fg6T : Str → Addr → Prop
 | c239 : Fg6T (oS "OpenStack") 239
 | c510 : Fg6T (oS "Formatting") 510
 | c634 : Fg6T (oS "Tree") 634
 | c712 : Fg6T (oS "Builder") 712
theorem fgT6 {x : Str} {f : Addr} (h : Fg6T x f) : FnG P x f := @Fg6T.rec (fun x f _ => FnG P x f) aWj aWk aWl aWm x f h
inductive Mt0T : Addr → Str → Addr → Prop
 | c159 : Mt0T 239 (oS "push") 159
 | c166 : Mt0T 239 (oS "pop") 166
 | c173 : Mt0T 239 (oS "current") 173
 | c180 : Mt0T 239 (oS "many") 180
 | c215 : Mt0T 239 (oS "name") 215
 | c222 : Mt0T 239 (oS "has_name") 222
 | c229 : Mt0T 239 (oS "pop_until") 229
 | c236 : Mt0T 239 (oS "pop_to") 236
theorem mtT0 {c : Addr} {x : Str} {f : Addr} (h : Mt0T c x f) : MthOk P c x f := @Mt0T.rec (fun c x f _ => MthOk P c x f) aYb aYc aYd aYe aYf aYg aYh aYi c x f h
inductive Mt1T : Addr → Str → Addr → Prop
 | c544 : Mt1T 634 (oS "add") 544
 | c553 : Mt1T 634 (oS "element") 553
 | c560 : Mt1T 634 (oS "text") 560
 | c567 : Mt1T 634 (oS "comment") 567
 | c582 : Mt1T 634 (oS "insert") 582
 | c589 : Mt1T 634 (oS "append") 589
 | c596 : Mt1T 634 (oS "remove") 596
 | c610 : Mt1T 634 (oS "place") 610
theorem mtT1 {c : Addr} {x : Str} {f : Addr} (h : Mt1T c x f) : MthOk P c x f := @Mt1T.rec (fun c x f _ => MthOk P c x f) aTe aYj aYk aYl aYm aYn aYo aYp c x f h
inductive Mt2T : Addr → Str → Addr → Prop
 | c617 : Mt2T 634 (oS "last") 617
 | c624 : Mt2T 634 (oS "value") 624
 | c631 : Mt2T 634 (oS "is_html") 631
 | c667 : Mt2T 712 (oS "error") 667
 | c674 : Mt2T 712 (oS "to") 674
 | c681 : Mt2T 712 (oS "use") 681
 | c688 : Mt2T 712 (oS "process") 688
 | c695 : Mt2T 712 (oS "feed") 695
theorem mtT2 {c : Addr} {x : Str} {f : Addr} (h : Mt2T c x f) : MthOk P c x f := @Mt2T.rec (fun c x f _ => MthOk P c x f) aYq aYr aYs aYt aYu aYv aYw aYx c x f h
inductive Mt3T : Addr → Str → Addr → Prop
 | c702 : Mt3T 712 (oS "adjusted") 702
 | c709 : Mt3T 712 (oS "is_foreign") 709
theorem mtT3 {c : Addr} {x : Str} {f : Addr} (h : Mt3T c x f) : MthOk P c x f := @Mt3T.rec (fun c x f _ => MthOk P c x f) aYy aYz c x f h
theorem aWg : BtG P (oS "len") (.builtin "len") := ⟨⋯, ⋯, by decide +kernel, fun _ => rfl⟩
theorem aQ6 : BtG P (oS "range") (.type "range") := ⟨⋯, ⋯, by decide +kernel, fun _ => rfl⟩
theorem aU5 : BtG P (oS "list") (.type "list") := ⟨⋯, ⋯, by decide +kernel, fun _ => rfl⟩
theorem aQ7 : BtG P (oS "tuple") (.type "tuple") := ⟨⋯, ⋯, by decide +kernel, fun _ => rfl⟩
theorem aWi : BtG P (oS "str") (.type "str") := ⟨⋯, ⋯, by decide +kernel, fun _ => rfl⟩
theorem aWf : BtG P (oS "chr") (.builtin "chr") := ⟨⋯, ⋯, by decide +kernel, fun _ => rfl⟩
theorem aWh : BtG P (oS "ord") (.builtin "ord") := ⟨⋯, ⋯, by decide +kernel, fun _ => rfl⟩
theorem aWe : BtG P (oS "all") (.builtin "all") := ⟨⋯, ⋯, by decide +kernel, fun _ => rfl⟩
theorem aEt : findIn (K P) (.ref 712) (oS "mode") = some none := ⋯
theorem aCe : findIn (K P) (.ref 712) (oS "original") = some none := ⋯
theorem aCu : findIn (K P) (.ref 712) (oS "pending") = some none := ⋯
theorem aC4 : findIn (K P) (.ref 712) (oS "is_foster") = some none := ⋯
theorem aB1 : findIn (K P) (.ref 712) (oS "is_acknowledged") = some none := ⋯
theorem aEr : findIn (K P) (.ref 712) (oS "form") = some none := ⋯
theorem aEs : findIn (K P) (.ref 712) (oS "head") = some none := ⋯
theorem aIw : findIn (K P) (.ref 712) (oS "rules") = some none := ⋯
theorem aKg : findIn (K P) (.ref 712) (oS "tree") = some none := ⋯
theorem aIx : findIn (K P) (.ref 712) (oS "stack") = some none := ⋯
theorem aDm : findIn (K P) (.ref 712) (oS "formatting") = some none := ⋯
theorem aIv : findIn (K P) (.ref 712) (oS "modes") = some none := ⋯
theorem aH8 : findIn (K P) (.ref 712) (oS "owners") = some none := ⋯
theorem aCd : findIn (K P) (.ref 712) (oS "is_frameset_ok") = some none := ⋯
theorem aCz : findIn (K P) (.ref 712) (oS "is_scripting") = some none := ⋯
theorem aFf : findIn (K P) (.ref 712) (oS "context") = some none := ⋯
theorem aH9 : findIn (K P) (.ref 712) (oS "quirks") = some none := ⋯
theorem aH7 : findIn (K P) (.ref 712) (oS "errors") = some none := ⋯
theorem aKh : findIn (K P) (.ref 712) (oS "wish") = some none := ⋯
theorem aDb : findIn (K P) (.ref 712) (oS "is_skipping") = some none := ⋯
theorem aFg : findIn (K P) (.ref 712) (oS "is_done") = some none := ⋯
theorem aIs : findIn (K P) (.ref 634) (oS "kinds") = some none := ⋯
theorem aH6 : findIn (K P) (.ref 634) (oS "spaces") = some none := ⋯
theorem aIt : findIn (K P) (.ref 634) (oS "names") = some none := ⋯
theorem aIr : findIn (K P) (.ref 634) (oS "attrs") = some none := ⋯
theorem aIu : findIn (K P) (.ref 634) (oS "texts") = some none := ⋯
theorem aFe : findIn (K P) (.ref 634) (oS "parents") = some none := ⋯
theorem aEp : findIn (K P) (.ref 634) (oS "children") = some none := ⋯
theorem aEq : findIn (K P) (.ref 634) (oS "contents") = some none := ⋯
theorem aKe : findIn (K P) (.ref 239) (oS "tree") = some none := ⋯
theorem aIp : findIn (K P) (.ref 239) (oS "items") = some none := ⋯
theorem aKf : findIn (K P) (.ref 510) (oS "tree") = some none := ⋯
theorem aIq : findIn (K P) (.ref 510) (oS "items") = some none := ⋯
end
end
end
section
section
variable {Γ : Cx} {fc : FC} {d : Nat} {ρ : Loc} {H : AH} {X : AH} {β : BS} {ν : Nat} {Q : AV → AH → Prop}
structure Nd (β : BS) (i : Int) (n : Node) : Prop where
 lo : 0 ≤ i
 hi : i < 1000000
 at_ : β.nodes[i.toNat]? = some n
theorem Nd.lt {i : Int} {n : Node} (h : Nd β i n) : i.toNat < β.nodes.length := (List.getElem?_eq_some_iff.mp h.at_).1
theorem aBm {i : Id} {l : List AV} {k : Int} {v : AV} (hi : H i = .live (.lst l)) (h0 : 0 ≤ k) (hz : k < 1000000) (hx : l[k.toNat]? = some v) (h : Q v H) : Sb Γ d (.ref i) (.int k) H Q := aC7 hi (n := k.toNat) (by omega) hx (by exact zco (zi [(Int.toNat k)] [k] (.h 1 (.a (.w 0) (.n 1)) (.n 1000000) (.h 1 (.u 0) (.w 0) .e)) (.u 0) (.n 1000000) rfl hz (Int.le_of_eq (Int.toNat_of_nonneg (zi [] [k] (.h 1 (.n 0) (.w 0) .e) (.n 0) (.w 0) rfl h0))))) h
theorem aPt {i : Int} {n : Node} (hn : Nd β i n) (h : Q (.str n.kind) (BH X β ν)) : Sb Γ d (.ref .kinds) (.int i) (BH X β ν) Q := aBm rfl hn.lo hn.hi (by rw [kindsL, List.getElem?_map, hn.at_]; rfl) h
theorem aNl {i : Int} {n : Node} (hn : Nd β i n) (h : Q (.str n.space) (BH X β ν)) : Sb Γ d (.ref .spaces) (.int i) (BH X β ν) Q := aBm rfl hn.lo hn.hi (by rw [spacesL, List.getElem?_map, hn.at_]; rfl) h
theorem aPy {i : Int} {n : Node} (hn : Nd β i n) (h : Q (.str n.name) (BH X β ν)) : Sb Γ d (.ref .names) (.int i) (BH X β ν) Q := aBm rfl hn.lo hn.hi (by rw [namesL, List.getElem?_map, hn.at_]; rfl) h
theorem aPz {i : Int} {n : Node} (hn : Nd β i n) (h : Q (.str n.text) (BH X β ν)) : Sb Γ d (.ref .texts) (.int i) (BH X β ν) Q := aBm rfl hn.lo hn.hi (by rw [textsL, List.getElem?_map, hn.at_]; rfl) h
theorem aM5 {i : Int} {n : Node} (hn : Nd β i n) (h : Q (.int n.parent) (BH X β ν)) : Sb Γ d (.ref .parents) (.int i) (BH X β ν) Q := aBm rfl hn.lo hn.hi (by rw [parentsL, List.getElem?_map, hn.at_]; rfl) h
theorem aLl {f : Nat → Id} {n k : Nat} (h : k < n) : (refK f n)[k]? = some (.ref (f k)) := by
 rw [refK, List.getElem?_map, List.getElem?_range h]; rfl
theorem aJh {i : Int} {n : Node} (hn : Nd β i n) (h : Q (.ref (.kd i.toNat)) (BH X β ν)) : Sb Γ d (.ref .children) (.int i) (BH X β ν) Q := aBm rfl hn.lo hn.hi (aLl hn.lt) h
theorem aPr {i : Int} {n : Node} (hn : Nd β i n) (h : Q (.ref (.at i.toNat)) (BH X β ν)) : Sb Γ d (.ref .attrs) (.int i) (BH X β ν) Q := aBm rfl hn.lo hn.hi (aLl hn.lt) h
theorem aH3 {l : List Int} {k : Nat} {v : Int} (h : l[k]? = some v) : (intL l)[k]? = some (.int v) := by rw [intL, List.getElem?_map, h]; rfl
theorem aPs {k v : Int} (h0 : 0 ≤ k) (hz : k < 1000000) (hx : β.items[k.toNat]? = some v) (h : Q (.int v) (BH X β ν)) : Sb Γ d (.ref .items) (.int k) (BH X β ν) Q := aBm rfl h0 hz (aH3 hx) h
theorem aW4 {i k v : Int} {n : Node} (hn : Nd β i n) (h0 : 0 ≤ k) (hz : k < 1000000) (hx : n.kids[k.toNat]? = some v) (h : Q (.int v) (BH X β ν)) : Sb Γ d (.ref (.kd i.toNat)) (.int k) (BH X β ν) Q := aBm (aE4 hn.at_) h0 hz (aH3 hx) h
theorem aM3 {i v : Int} {n : Node} (hn : Nd β i n) (hx : n.kids.getLast? = some v) (h : Q (.int v) (BH X β ν)) : Sb Γ d (.ref (.kd i.toNat)) (.int (-1)) (BH X β ν) Q :=
 aGg (aE4 hn.at_) (by rw [intL, List.getLast?_map, hx]; rfl) h
theorem aKz {k : Str} {v : AV} (hm : Fld k v rulesD) (h : Q v (BH X β ν)) : Sb Γ d (.ref .rules) (.str k) (BH X β ν) Q := aB9 rfl hm.mem h
theorem aZj {v : AV} {l : List AV} (h : Q v H) : Sb Γ d (.tup (v :: l)) (.int 0) H Q := aHw (n := 0) rfl rfl (by omega) h
theorem aZk {a v : AV} {l : List AV} (h : Q v H) : Sb Γ d (.tup (a :: v :: l)) (.int 1) H Q := aHw (n := 1) rfl rfl (by omega) h
theorem aZl {a b v : AV} {l : List AV} (h : Q v H) : Sb Γ d (.tup (a :: b :: v :: l)) (.int 2) H Q := aHw (n := 2) rfl rfl (by omega) h
theorem aZm {a b c v : AV} {l : List AV} (h : Q v H) : Sb Γ d (.tup (a :: b :: c :: v :: l)) (.int 3) H Q := aHw (n := 3) rfl rfl (by omega) h
theorem aZh {a : Int} {k : Nat} {p q : Pos} (h : Q (.int (-a)) H) : Ev Γ fc d (.UnaryOp .USub (.Constant (.int a) k p) q) ρ H Q := aVz (aFl ⟨a, rfl, h⟩)
section
variable {C : AH → Prop}
theorem aNo {x : Str} (h : C (BH X { β with mode := x } ν)) : SetA Γ (oS "mode") (.ref .bld) (.str x) (BH X β ν) C :=
 aBj (fs' := bldFs { β with mode := x }) rfl aAn aEt rfl (.rep (by repeat' (first | exact .here | refine .there ?_))) (aCj rfl rfl rfl rfl rfl rfl rfl rfl) h
theorem aNp {x : Str} (h : C (BH X { β with orig := x } ν)) : SetA Γ (oS "original") (.ref .bld) (.str x) (BH X β ν) C :=
 aBj (fs' := bldFs { β with orig := x }) rfl aAn aCe rfl (.rep (by repeat' (first | exact .here | refine .there ?_))) (aCj rfl rfl rfl rfl rfl rfl rfl rfl) h
theorem aJj {x : Bool} (h : C (BH X { β with foster := x } ν)) : SetA Γ (oS "is_foster") (.ref .bld) (.bool x) (BH X β ν) C :=
 aBj (fs' := bldFs { β with foster := x }) rfl aAn aC4 rfl (.rep (by repeat' (first | exact .here | refine .there ?_))) (aCj rfl rfl rfl rfl rfl rfl rfl rfl) h
theorem aQ0 {x : Bool} (h : C (BH X { β with ack := x } ν)) : SetA Γ (oS "is_acknowledged") (.ref .bld) (.bool x) (BH X β ν) C :=
 aBj (fs' := bldFs { β with ack := x }) rfl aAn aB1 rfl (.rep (by repeat' (first | exact .here | refine .there ?_))) (aCj rfl rfl rfl rfl rfl rfl rfl rfl) h
theorem aNm {x : Int} (h : C (BH X { β with form := x } ν)) : SetA Γ (oS "form") (.ref .bld) (.int x) (BH X β ν) C :=
 aBj (fs' := bldFs { β with form := x }) rfl aAn aEr rfl (.rep (by repeat' (first | exact .here | refine .there ?_))) (aCj rfl rfl rfl rfl rfl rfl rfl rfl) h
theorem aNn {x : Int} (h : C (BH X { β with head := x } ν)) : SetA Γ (oS "head") (.ref .bld) (.int x) (BH X β ν) C :=
 aBj (fs' := bldFs { β with head := x }) rfl aAn aEs rfl (.rep (by repeat' (first | exact .here | refine .there ?_))) (aCj rfl rfl rfl rfl rfl rfl rfl rfl) h
end
theorem aNq {C : AH → Prop} (h : C (BH X { β with pends := β.pends ++ [[]] } ν)) : SetA Γ (oS "pending") (.ref .bld) (.ref (.pend β.pends.length)) (upd (BH X β ν) (.pend β.pends.length) (.live (.lst []))) C := by
 refine aBj (i := .bld) (C' := 712) (fs := bldFs β) (fs' := bldFs { β with pends := β.pends ++ [[]] }) rfl aAn aCu rfl ?_ (H' := BH X { β with pends := β.pends ++ [[]] } ν) ?_ h
 ·refine .rep ?_
  have : ({ β with pends := β.pends ++ [[]] } : BS).pends.length - 1 = β.pends.length := by simp
  unfold bldFs
  rw [this]
  repeat' (first | exact .here | refine .there ?_)
 ·refine aBo rfl fun j hj => ?_
  by_cases q : j = .pend β.pends.length
  ·subst q
   rw [upd, if_pos rfl]
   simp [BH, chL]
  ·rw [upd, if_neg q]
   cases j <;> first | rfl | exact absurd rfl hj | skip
   rename_i k
   have : k ≠ β.pends.length := fun e => q (by rw [e])
   have e : (β.pends ++ [[]])[k]? = β.pends[k]? := by
    rw [List.getElem?_append]
    split
    ·rfl
    ·rw [List.getElem?_eq_none (l := β.pends) (by exact oz46 ‹_›), List.getElem?_eq_none (by simp; omega)]
   simp only [BH, e]
theorem aE6 {k : Int} (hz : β.items.length ≤ 1000000) (h : Q .none (BH X { β with items := β.items ++ [k] } ν)) : Cl Γ d (.builtin "list.append") [.ref .items, .int k] (BH X β ν) Q :=
 aA5 rfl (by rw [intL, List.length_map]; exact hz) (by rw [show intL β.items ++ [AV.int k] = intL (β.items ++ [k]) by simp [intL], aFx]; exact h)
theorem aHn {k : Int} (hv : β.items.getLast? = some k) (hz : β.items.length ≤ 1000000) (h : Q (.int k) (BH X { β with items := β.items.dropLast } ν)) : Cl Γ d (.builtin "list.pop") [.ref .items] (BH X β ν) Q :=
 aVp rfl (by rw [intL, List.getLast?_map, hv]; rfl) (by rw [intL, List.length_map]; exact hz) (by rw [show (intL β.items).dropLast = intL β.items.dropLast by simp [intL, List.map_dropLast], aFx]; exact h)
theorem aDv {a b : Str} (hz : β.errors.length ≤ 1000000) (h : Q .none (BH X { β with errors := β.errors ++ [(a, b)] } ν)) : Cl Γ d (.builtin "list.append") [.ref .errors, .tup [.str a, .str b]] (BH X β ν) Q :=
 aA5 rfl (by rw [pairL, List.length_map]; exact hz) (by rw [show pairL β.errors ++ [AV.tup [.str a, .str b]] = pairL (β.errors ++ [(a, b)]) by simp [pairL, pairA], aK8]; exact h)
theorem aF5 {k : Nat} {l : List Str} {x : Str} (hk : β.pends[k]? = some l) (hz : l.length ≤ 1000000) (h : Q .none (BH X { β with pends := β.pends.set k (l ++ [x]) } ν)) : Cl Γ d (.builtin "list.append") [.ref (.pend k), .tup [.str "char", .str x]] (BH X β ν) Q :=
 aA5 (aCv hk) (by rw [chL, List.length_map]; exact hz) (by rw [show chL l ++ [AV.tup [.str "char", .str x]] = chL (l ++ [x]) by simp [chL, chTok], aOq hk]; exact h)
theorem aF4 {i node : Int} {n : Node} {k : Int} (hn : Nd β i n) (h0 : 0 ≤ k) (hk : k.toNat ≤ n.kids.length) (hz : n.kids.length ≤ 1000000) (h : Q .none (BH X (setN β i.toNat { n with kids := n.kids.take k.toNat ++ node :: n.kids.drop k.toNat }) ν)) :
  Cl Γ d (.builtin "list.insert") [.ref (.kd i.toNat), .int k, .int node] (BH X β ν) Q :=
 aMw (n := k.toNat) (aE4 hn.at_) (by omega) (by rw [intL, List.length_map]; exact hk) (by rw [intL, List.length_map]; exact hz)
  (by rw [show (intL n.kids).take k.toNat ++ AV.int node :: (intL n.kids).drop k.toNat = intL (n.kids.take k.toNat ++ node :: n.kids.drop k.toNat) by simp [intL, List.map_take, List.map_drop], aOp hn.at_]; exact h)
theorem aD0 {i x : Int} {n : Node} {j : Nat} (hn : Nd β i n) (hj : n.kids[j]? = some x) (hno : ∀ m, m < j → n.kids[m]? ≠ some x) (hz : n.kids.length ≤ 1000000) (h : Q (.int j) (BH X β ν)) : Cl Γ d (.builtin "list.index") [.ref (.kd i.toNat), .int x] (BH X β ν) Q :=
 aPe (aE4 hn.at_) aCw (aH3 hj) (fun m hm v hv => by
  rw [intL, List.getElem?_map] at hv
  obtain ⟨y, h1, rfl⟩ := Option.map_eq_some_iff.mp hv
  have := hno m hm
  rw [h1] at this
  simp only [isInt, decide_eq_false_iff_not]
  exact fun e => this (by rw [e])) (by rw [intL, List.length_map]; exact hz) h
theorem aHp (hz : β.items.length ≤ 1000000) (h : Q (.int β.items.length) (BH X β ν)) : Cl Γ d (.builtin "len") [.ref .items] (BH X β ν) Q := aHo (l := intL β.items) rfl (by rw [intL, List.length_map]; exact hz) (by rw [intL, List.length_map]; exact h)
theorem aJ9 {i : Int} {n : Node} (hn : Nd β i n) (hz : n.kids.length ≤ 1000000) (h : Q (.int n.kids.length) (BH X β ν)) : Cl Γ d (.builtin "len") [.ref (.kd i.toNat)] (BH X β ν) Q := aHo (aE4 hn.at_) (by rw [intL, List.length_map]; exact hz) (by rw [intL, List.length_map]; exact h)
theorem aQ1 {i : Int} {n : Node} {x : Str} {C : AH → Prop} (hn : Nd β i n) (hz : β.nodes.length ≤ 1000000) (h : C (BH X (setN β i.toNat { n with text := x }) ν)) : Si Γ d (.ref .texts) (.int i) (.str x) (BH X β ν) C :=
 aT3 (n := i.toNat) (l := textsL β.nodes) rfl (by have := hn.lo; omega) (by rw [textsL, List.length_map]; exact hn.lt) (by rw [textsL, List.length_map]; exact hz) (by rw [aOr hn.at_]; exact h)
theorem aFo {i x : Int} {n : Node} {C : AH → Prop} (hn : Nd β i n) (hz : β.nodes.length ≤ 1000000) (h : C (BH X (setN β i.toNat { n with parent := x }) ν)) : Si Γ d (.ref .parents) (.int i) (.int x) (BH X β ν) C :=
 aT3 (n := i.toNat) (l := parentsL β.nodes) rfl (by have := hn.lo; omega) (by rw [parentsL, List.length_map]; exact hn.lt) (by rw [parentsL, List.length_map]; exact hz) (by rw [aKa hn.at_]; exact h)
theorem aL8 {l : List (Int × Int)} {k v : Int} (h : k ∉ l.map (·.1)) : Sto k (.int v) (mapI l) (mapI (l ++ [(k, v)])) := by
 have : mapI (l ++ [(k, v)]) = mapI l ++ [(k, .int v)] := by simp [mapI]
 rw [this]
 refine .new ?_
 rw [mapI, List.map_map]
 exact h
theorem aNs {k v : Int} {C : AH → Prop} (hn : k ∉ β.owners.map (·.1)) (hz : β.owners.length ≤ 1000000) (h : ∀ e, C (BH X { β with owners := β.owners ++ [(k, v)], ownE := e } ν)) : Si Γ d (.ref .owners) (.int k) (.int v) (BH X β ν) C :=
 aT2 (es := mapI β.owners) rfl (aL8 hn) (by rw [mapI, List.length_map]; exact hz) fun e => by rw [aK9]; exact h e
theorem aTz {k v : Int} {C : AH → Prop} (hn : k ∉ β.cont.map (·.1)) (hz : β.cont.length ≤ 1000000) (h : ∀ e, C (BH X { β with cont := β.cont ++ [(k, v)], contE := e } ν)) : Si Γ d (.ref .contents) (.int k) (.int v) (BH X β ν) C :=
 aT2 (es := mapI β.cont) rfl (aL8 hn) (by rw [mapI, List.length_map]; exact hz) fun e => by rw [aOo]; exact h e
section
variable {C : Bool → Prop}
theorem aJa {x : Int} (h : C (β.cont.any fun p => decide (p.1 = x))) : CmQ Γ d .In (.int x) (.ref .contents) (BH X β ν) C := ⟨_, aN4 rfl, by rw [aQ5]; exact h⟩
theorem aJb {i : Id} {l : List Int} {x : Int} (hi : H i = .live (.lst (intL l))) (h : C (l.any fun y => decide (y = x))) : CmQ Γ d .In (.int x) (.ref i) H C := ⟨_, aN5 hi aCw, by rw [aL1]; exact h⟩
theorem aE8 {x : Str} (h : C (!rulesD.any fun p => decide (p.1 = x))) : CmQ Γ d .NotIn (.str x) (.ref .rules) (BH X β ν) C := ⟨_, aHs rfl, h⟩
end
theorem aU2 {i : Int} {n : Node} {C : Bool → Prop} (hn : Nd β i n) (hz : n.kids.length ≤ 100000) (h : C (!n.kids.isEmpty)) : ∃ c, Truth (BH X β ν) (.ref (.kd i.toNat)) c ∧ C c :=
 aNt (aE4 hn.at_) (by rw [intL, List.length_map]; exact hz) (by rw [intL, List.isEmpty_map]; exact h)
theorem aEu {a b : String} : (oS a = oS b) = (a = b) := by
 refine propext ⟨fun h => ?_, fun h => by rw [h]⟩
 rw [Str.ofString_eq_toList, Str.ofString_eq_toList] at h
 injection h with h
 have h2 : a.toList.map Char.toNat = b.toList.map Char.toNat := by
  have := congrArg Array.toList h
  simpa using this
 have h3 : a.toList = b.toList := List.map_inj_right (fun x y e => by
  apply Char.ext
  apply UInt32.toNat_inj.mp
  exact e) |>.mp h2
 exact String.toList_injective h3
end
end
section
open PySem PySem.W PyProof.Rows PySem.Calls
set_option genInjectivity true in
inductive Tr
 | lf (kind text : Str)
 | el (name : Str) (attrs : List (Str × Str)) (kids : List Tr)
noncomputable def gN (N : List Node) (i : Int) : Option Node := if 0 ≤ i then N[i.toNat]? else none
theorem aB3 {N : List Node} {i : Int} {n : Node} (h : gN N i = some n) : 0 ≤ i ∧ i < N.length := by
 unfold gN at h
 split at h
 ·have := (List.getElem?_eq_some_iff.mp h).1; omega
 ·cases h
noncomputable abbrev sText : Str := oS "text"
noncomputable abbrev sComment : Str := oS "comment"
noncomputable abbrev sElement : Str := oS "element"
noncomputable abbrev sHtml : Str := oS "html"
mutual
inductive Fits (N : List Node) : Int → Int → Tr → Prop
 | lf {p i : Int} {n : Node} : gN N i = some n → n.parent = p → (n.kind = sText ∨ n.kind = sComment) → Fits N p i (.lf n.kind n.text)
 | el {p i : Int} {n : Node} {ts : List Tr} : gN N i = some n → n.parent = p → n.kind = sElement → FitsL N i n.kids ts → Fits N p i (.el n.name n.attrs ts)
inductive FitsL (N : List Node) : Int → List Int → List Tr → Prop
 | nil {p : Int} : FitsL N p [] []
 | cons {p i : Int} {t : Tr} {is : List Int} {ts : List Tr} : Fits N p i t → FitsL N p is ts → FitsL N p (i :: is) (t :: ts)
end
theorem FitsL.append {N : List Node} {p : Int} {is js : List Int} {ts us : List Tr} (h : FitsL N p is ts) (k : FitsL N p js us) : FitsL N p (is ++ js) (ts ++ us) := by
 induction is generalizing ts with
 | nil => cases h; exact k
 | cons i is ih => cases h with | cons a h => exact .cons a (ih h)
theorem FitsL.split {N : List Node} {p : Int} {is js : List Int} {ts : List Tr} (h : FitsL N p (is ++ js) ts) : ∃ us vs, ts = us ++ vs ∧ FitsL N p is us ∧ FitsL N p js vs := by
 induction is generalizing ts with
 | nil => exact ⟨[], ts, rfl, .nil, h⟩
 | cons i is ih =>
  cases h with
  | cons a h =>
   obtain ⟨us, vs, rfl, h1, h2⟩ := ih h
   exact ⟨_ :: us, vs, rfl, .cons a h1, h2⟩
theorem FitsL.len {N : List Node} {p : Int} {is : List Int} {ts : List Tr} (h : FitsL N p is ts) : is.length = ts.length := by
 induction is generalizing ts with
 | nil => cases h; rfl
 | cons i is ih => cases h with | cons a h => simp [ih h]
theorem Fits.node {N : List Node} {p i : Int} {t : Tr} (h : Fits N p i t) : ∃ n, gN N i = some n ∧ n.parent = p := by
 cases h with
 | lf h1 h2 _ => exact ⟨_, h1, h2⟩
 | el h1 h2 _ _ => exact ⟨_, h1, h2⟩
theorem FitsL.node {N : List Node} {p : Int} {is : List Int} {ts : List Tr} (h : FitsL N p is ts) : ∀ i ∈ is, ∃ n, gN N i = some n ∧ n.parent = p := by
 induction is generalizing ts with
 | nil => intro i hi; cases hi
 | cons j is ih =>
  cases h with
  | cons a h =>
   intro i hi
   cases hi with
   | head => exact a.node
   | tail _ hi => exact ih h i hi
inductive Sub (N : List Node) (i : Int) : Int → Prop
 | refl : Sub N i i
 | up {y : Int} {n : Node} : gN N y = some n → Sub N i n.parent → Sub N i y
theorem Sub.over {N : List Node} {i k y : Int} {n : Node} (h : Sub N k y) (hk : gN N k = some n) (hp : n.parent = i) : Sub N i y := by
 induction h with
 | refl => exact .up hk (hp ▸ .refl)
 | up e _ ih => exact .up e ih
theorem Sub.inn {N : List Node} {i y : Int} {S : List Int} (hS : ∀ z ∈ S, ∀ n, gN N z = some n → n.parent ∈ S ∨ n.parent = -1) (h : Sub N i y) (hy : y ∈ S ∨ y = -1) : i ∈ S ∨ i = -1 := by
 induction h with
 | refl => exact hy
 | @up y n e _ ih =>
  refine ih ?_
  rcases hy with hy | rfl
  ·exact hS _ hy _ e
  ·have := (aB3 e).1; omega
def Dif (N N' : List Node) (y : Int) : Prop := ∀ x n, gN N x = some n → x ≠ y → gN N' x = some n
theorem FitsL.dif {N N' : List Node} {y : Int} (hd : Dif N N' y) {p : Int} {is : List Int} {ts : List Tr} (h : FitsL N p is ts) : (∀ k ∈ is, ¬ Sub N k y) → FitsL N' p is ts :=
 @FitsL.rec N (fun p i t _ => ¬ Sub N i y → Fits N' p i t) (fun p is ts _ => (∀ k ∈ is, ¬ Sub N k y) → FitsL N' p is ts)
  (fun h1 h2 h3 hs => .lf (hd _ _ h1 fun e => hs (e ▸ .refl)) h2 h3)
  (fun h1 h2 h3 h4 ih hs => .el (hd _ _ h1 fun e => hs (e ▸ .refl)) h2 h3 (ih fun k hk hsub => by
   obtain ⟨m, e1, e2⟩ := h4.node k hk
   exact hs (hsub.over e1 e2)))
  (fun _ => .nil) (fun _ _ a b hs => .cons (a (hs _ (.head _))) (b fun k hk => hs k (.tail _ hk))) _ _ _ h
structure Fm where
 id : Int
 par : Int
 nm : Str
 at_ : List (Str × Str)
 ids : List Int
 ts : List Tr
 nxt : List Int
structure FmOk (N : List Node) (S : List Int) (g : Fm) : Prop where
 node : ∃ n, gN N g.id = some n ∧ n.kind = sElement ∧ n.space = sHtml ∧ n.name = g.nm ∧ n.attrs = g.at_ ∧ n.parent = g.par ∧ n.kids = g.ids ++ g.nxt
 fits : FitsL N g.id g.ids g.ts
 out : ∀ i ∈ g.ids, i ∉ S
 nd : (g.ids ++ g.nxt).Nodup
 par : g.par ∈ S
 big : 1 < g.id
noncomputable abbrev opens (G : List Fm) : List Int := 0 :: 1 :: G.map (·.id)
structure DN (N : List Node) (G : List Fm) : Prop where
 doc : ∃ n, gN N 0 = some n ∧ n.parent = -1
 html : ∃ n, gN N 1 = some n ∧ n.parent = 0 ∧ n.space = sHtml ∧ n.name = sHtml
 fm : ∀ g ∈ G, FmOk N (opens G) g
 nd : (G.map (·.id)).Nodup
theorem DN.closed {N : List Node} {G : List Fm} (h : DN N G) : ∀ z ∈ opens G, ∀ n, gN N z = some n → n.parent ∈ opens G ∨ n.parent = -1 := by
 intro z hz n hn
 rcases List.mem_cons.mp hz with rfl | hz
 ·obtain ⟨m, e1, e2⟩ := h.doc
  rwa [e1] at hn; exact .inr e2
 ·rcases List.mem_cons.mp hz with rfl | hz
  ·obtain ⟨m, e1, e2, _⟩ := h.html
   rwa [e1] at hn; rw [e2]; exact .inl (.head _)
  ·obtain ⟨g, hg, rfl⟩ := List.mem_map.mp hz
   obtain ⟨m, e1, _, _, _, _, e2, _⟩ := (h.fm g hg).node
   rwa [e1] at hn; rw [e2]; exact .inl (h.fm g hg).par
theorem DN.perm {N : List Node} {G G' : List Fm} (h : DN N G) (p : G.Perm G') : DN N G' := by
 have e : ∀ x, x ∈ opens G' → x ∈ opens G := fun x hx => by
  rcases List.mem_cons.mp hx with rfl | hx
  ·exact .head _
  ·rcases List.mem_cons.mp hx with rfl | hx
   ·exact .tail _ (.head _)
   ·exact .tail _ (.tail _ ((p.map _).mem_iff.mpr hx))
 have e' : ∀ x, x ∈ opens G → x ∈ opens G' := fun x hx => by
  rcases List.mem_cons.mp hx with rfl | hx
  ·exact .head _
  ·rcases List.mem_cons.mp hx with rfl | hx
   ·exact .tail _ (.head _)
   ·exact .tail _ (.tail _ ((p.map _).mem_iff.mp hx))
 exact ⟨h.doc, h.html, fun g hg => let k := h.fm g (p.mem_iff.mpr hg); ⟨k.node, k.fits, fun i hi hs => k.out i hi (e i hs), k.nd, e' _ k.par, k.big⟩, (p.map _).nodup_iff.mp h.nd⟩
theorem DN.apart {N : List Node} {G : List Fm} (h : DN N G) {g : Fm} (hg : g ∈ G) {y : Int} (hy : y ∈ opens G) : ∀ k ∈ g.ids, ¬ Sub N k y := fun k hk hs => by
 obtain ⟨n, e1, _⟩ := (h.fm g hg).fits.node k hk
 rcases hs.inn h.closed (.inl hy) with q | q
 ·exact (h.fm g hg).out k hk q
 ·have := (aB3 e1).1; exact zff (zco (zi [] [k] (.h 1 (.w 0) (.g (.n 1)) (.h 1 (.n 0) (.w 0) .e)) (.n 1) (.n 0) rfl (Int.le_of_eq q) this))
noncomputable def insN (N : List Node) (p : Int) (np : Node) (l : List Int) (new : Node) (fr : List Node) : List Node := N.set p.toNat { np with kids := l } ++ { new with parent := p } :: fr
theorem aH2 {N : List Node} {p : Int} {np new : Node} {l : List Int} {fr : List Node} (hp : gN N p = some np) : Dif N (insN N p np l new fr) p := by
 intro x n hx hne
 have h1 := aB3 hx
 have h2 := aB3 hp
 unfold gN at hx hp ⊢
 rw [if_pos h1.1] at hx ⊢
 rw [if_pos h2.1] at hp
 unfold insN
 rw [List.getElem?_append_left (by simp; omega), aAz hp, if_neg (by exact oz276 hne h1 h2)]
 exact hx
theorem aH1 {N : List Node} {p : Int} {np new : Node} {l : List Int} {fr : List Node} (hp : gN N p = some np) : gN (insN N p np l new fr) p = some { np with kids := l } := by
 have h2 := aB3 hp
 unfold gN at hp ⊢
 rw [if_pos h2.1] at hp ⊢
 unfold insN
 rw [List.getElem?_append_left (by simp; omega), aAz hp, if_pos rfl]
theorem aD9 {N : List Node} {p : Int} {np new : Node} {l : List Int} {fr : List Node} : gN (insN N p np l new fr) N.length = some { new with parent := p } := by
 unfold gN insN
 rw [if_pos (by omega), Int.toNat_natCast, List.getElem?_append_right (by simp)]
 simp
theorem DN.keep {N N' : List Node} {G : List Fm} (h : DN N G) {y : Int} (hy : y ∈ opens G) (hd : Dif N N' y) {g : Fm} (hg : g ∈ G) (hne : g.id ≠ y) : (∃ n, gN N' g.id = some n ∧ n.kind = sElement ∧ n.space = sHtml ∧ n.name = g.nm ∧ n.attrs = g.at_ ∧ n.parent = g.par ∧ n.kids = g.ids ++ g.nxt) ∧ FitsL N' g.id g.ids g.ts := by
 obtain ⟨n, e, r⟩ := (h.fm g hg).node
 exact ⟨⟨n, hd _ _ e hne, r⟩, (h.fm g hg).fits.dif hd (h.apart hg hy)⟩
theorem DN.base {N N' : List Node} {G : List Fm} (h : DN N G) {y : Int} (hy : 1 < y) (hd : Dif N N' y) : (∃ n, gN N' 0 = some n ∧ n.parent = -1) ∧ (∃ n, gN N' 1 = some n ∧ n.parent = 0 ∧ n.space = sHtml ∧ n.name = sHtml) := by
 obtain ⟨n, e, r⟩ := h.doc
 obtain ⟨m, f, q⟩ := h.html
 exact ⟨⟨n, hd _ _ e (by exact oz277 hy), r⟩, m, hd _ _ f (by exact oz278 hy), q⟩
theorem aAx {g : Fm} {R : List Fm} : g.id ∈ opens (g :: R) := .tail _ (.tail _ (.head _))
theorem FmOk.lt {N : List Node} {S : List Int} {g : Fm} (h : FmOk N S g) : ∀ i ∈ g.ids, i < N.length := fun i hi => by
 obtain ⟨n, e, _⟩ := h.fits.node i hi
 exact (aB3 e).2
theorem DN.leaf {N : List Node} {g : Fm} {R : List Fm} (h : DN N (g :: R)) {np new : Node} {fr : List Node} (hp : gN N g.id = some np) (hk : new.kids = []) {t : Tr} (ht : (t = .lf new.kind new.text ∧ (new.kind = sText ∨ new.kind = sComment)) ∨ (t = .el new.name new.attrs [] ∧ new.kind = sElement))
  (hx : ∀ x ∈ g.nxt, x < N.length) : DN (insN N g.id np (g.ids ++ (N.length : Int) :: g.nxt) new fr) ({ g with ids := g.ids ++ [(N.length : Int)], ts := g.ts ++ [t] } :: R) := by
 have hd := aH2 (new := new) (l := g.ids ++ (N.length : Int) :: g.nxt) (fr := fr) hp
 have k := h.fm g (.head _)
 refine hZ fun GZ kZ => ?_
 obtain ⟨b1, b2⟩ := h.base k.big hd
 obtain ⟨n, e1, e2, e3, e4, e5, e6, e7⟩ := k.node
 rwa [hp] at e1
 have op : opens ({ g with ids := g.ids ++ [(N.length : Int)], ts := g.ts ++ [t] } :: R) = opens (g :: R) := rfl
 refine kZ ?_
 refine ⟨b1, b2, fun f hf => ?_, h.nd⟩
 rw [op]
 have nS : (N.length : Int) ∉ opens (g :: R) := fun hm => by
  rcases List.mem_cons.mp hm with q | hm
  ·obtain ⟨m, z, _⟩ := h.doc; have := (aB3 z).2; exact zff (zco (zi [N.length] [] (.h 1 (.u 0) (.n 0) (.h 1 (.a (.n 0) (.n 1)) (.u 0) .e)) (.n 1) (.n 0) rfl (Int.le_of_eq q) this))
  ·rcases List.mem_cons.mp hm with q | hm
   ·obtain ⟨m, z, _⟩ := h.html; have := (aB3 z).2; exact zff (zco (zi [N.length] [] (.h 1 (.u 0) (.n 1) (.h 1 (.a (.n 1) (.n 1)) (.u 0) .e)) (.n 1) (.n 0) rfl (Int.le_of_eq q) this))
   ·obtain ⟨f, hf, q⟩ := List.mem_map.mp hm
    obtain ⟨m, z, _⟩ := (h.fm f hf).node
    have := (aB3 z).2; omega
 rcases List.mem_cons.mp hf with rfl | hf
 ·refine ⟨⟨_, aH1 hp, e2, e3, e4, e5, e6, ?_⟩, ?_, ?_, ?_, k.par, k.big⟩
  ·simp
  ·refine FitsL.append (k.fits.dif hd (h.apart (.head _) aAx)) (.cons ?_ .nil)
   rcases ht with ⟨rfl, q⟩ | ⟨rfl, q⟩
   ·exact Fits.lf (n := { new with parent := g.id }) aD9 rfl q
   ·exact Fits.el (n := { new with parent := g.id }) aD9 rfl q (by show FitsL _ _ new.kids []; rw [hk]; exact .nil)
  ·intro i hi
   rcases List.mem_append.mp hi with hi | hi
   ·exact k.out i hi
   ·rw [List.mem_singleton.mp hi]; exact nS
  ·have := k.nd
   have fresh : (N.length : Int) ∉ g.ids ++ g.nxt := fun hm => by
    rcases List.mem_append.mp hm with q | q
    ·have := k.lt _ q; exact oz22 this
    ·have := hx _ q; exact oz22 this
   show ((g.ids ++ [(N.length : Int)]) ++ g.nxt).Nodup
   rw [List.append_assoc, List.singleton_append]
   exact (List.perm_middle.nodup_iff).mpr (List.nodup_cons.mpr ⟨fresh, this⟩)
 ·have ne : f.id ≠ g.id := fun e => by
   have := h.nd
   rw [List.map_cons, List.nodup_cons] at this
   exact this.1 (e ▸ List.mem_map.mpr ⟨f, hf, rfl⟩)
  have kf := h.fm f (.tail _ hf)
  obtain ⟨c1, c2⟩ := h.keep aAx hd (.tail _ hf) ne
  exact ⟨c1, c2, kf.out, kf.nd, kf.par, kf.big⟩
theorem DN.open_ {N : List Node} {g : Fm} {R : List Fm} (h : DN N (g :: R)) {np new : Node} {fr : List Node} (hp : gN N g.id = some np) (hk : new.kids = []) (h1 : new.kind = sElement) (h2 : new.space = sHtml) (hx : ∀ x ∈ g.nxt, x < N.length) :
  DN (insN N g.id np (g.ids ++ (N.length : Int) :: g.nxt) new fr) (⟨N.length, g.id, new.name, new.attrs, [], [], []⟩ :: { g with nxt := (N.length : Int) :: g.nxt } :: R) := by
 have hd := aH2 (new := new) (l := g.ids ++ (N.length : Int) :: g.nxt) (fr := fr) hp
 have k := h.fm g (.head _)
 refine hZ fun GZ kZ => ?_
 obtain ⟨b1, b2⟩ := h.base k.big hd
 obtain ⟨n, e1, e2, e3, e4, e5, e6, e7⟩ := k.node
 rwa [hp] at e1
 refine kZ ?_
 have mem : ∀ x, x ∈ opens ((⟨N.length, g.id, new.name, new.attrs, [], [], []⟩ : Fm) :: { g with nxt := (N.length : Int) :: g.nxt } :: R) ↔ x = (N.length : Int) ∨ x ∈ opens (g :: R) := fun x => by
  simp only [opens, List.map_cons, List.mem_cons]
  constructor
  ·rintro (q | q | q | q)
   ·exact .inr (.inl q)
   ·exact .inr (.inr (.inl q))
   ·exact .inl q
   ·exact .inr (.inr (.inr q))
  ·rintro (q | q | q | q)
   ·exact .inr (.inr (.inl q))
   ·exact .inl q
   ·exact .inr (.inl q)
   ·exact .inr (.inr (.inr q))
 have inS : ∀ x ∈ opens (g :: R), x < N.length := fun x hm => by
  rcases List.mem_cons.mp hm with q | hm
  ·obtain ⟨m, z, _⟩ := h.doc; have := (aB3 z).2; exact oz19 q this
  ·rcases List.mem_cons.mp hm with q | hm
   ·obtain ⟨m, z, _⟩ := h.html; have := (aB3 z).2; exact oz20 q this
   ·obtain ⟨f, hf, q⟩ := List.mem_map.mp hm
    obtain ⟨m, z, _⟩ := (h.fm f hf).node
    have := (aB3 z).2; exact oz21 q this
 have outM : ∀ f ∈ (g :: R), ∀ i ∈ f.ids, i ∉ opens ((⟨N.length, g.id, new.name, new.attrs, [], [], []⟩ : Fm) :: { g with nxt := (N.length : Int) :: g.nxt } :: R) := fun f hf i hi hm => by
  rcases (mem i).mp hm with q | q
  ·have := (h.fm f hf).lt i hi; omega
  ·exact (h.fm f hf).out i hi q
 have big : (1 : Int) < N.length := by
  have := (aB3 hp).2; have := k.big; exact oz281 ‹_› this
 refine ⟨b1, b2, fun f hf => ?_, ?_⟩
 ·rcases List.mem_cons.mp hf with rfl | hf
  ·exact ⟨⟨_, aD9, h1, h2, rfl, rfl, rfl, by simp [hk]⟩, .nil, fun i hi => (nomatch hi), List.nodup_nil, (mem _).mpr (.inr aAx), big⟩
  ·rcases List.mem_cons.mp hf with rfl | hf
   ·refine ⟨⟨_, aH1 hp, e2, e3, e4, e5, e6, rfl⟩, k.fits.dif hd (h.apart (.head _) aAx), outM g (.head _), ?_, (mem _).mpr (.inr k.par), k.big⟩
    have fresh : (N.length : Int) ∉ g.ids ++ g.nxt := fun hm => by
     rcases List.mem_append.mp hm with q | q
     ·have := k.lt _ q; exact oz22 this
     ·have := hx _ q; exact oz22 this
    exact (List.perm_middle.nodup_iff).mpr (List.nodup_cons.mpr ⟨fresh, k.nd⟩)
   ·have ne : f.id ≠ g.id := fun e => by
     have := h.nd
     rw [List.map_cons, List.nodup_cons] at this
     exact this.1 (e ▸ List.mem_map.mpr ⟨f, hf, rfl⟩)
    have kf := h.fm f (.tail _ hf)
    obtain ⟨c1, c2⟩ := h.keep aAx hd (.tail _ hf) ne
    exact ⟨c1, c2, outM f (.tail _ hf), kf.nd, (mem _).mpr (.inr kf.par), kf.big⟩
 ·have := h.nd
  rw [List.map_cons, List.nodup_cons]
  refine ⟨fun hm => ?_, this⟩
  have := inS (N.length : Int) (.tail _ (.tail _ hm)); exact oz22 this
theorem DN.grow {N : List Node} {g : Fm} {R : List Fm} (h : DN N (g :: R)) {is : List Int} {us : List Tr} {y : Int} {s x : Str} {ny : Node} (hi : g.ids = is ++ [y]) (ht : g.ts = us ++ [.lf sText s]) (hy : gN N y = some ny) (hs : ny.text = s) (hk : ny.kind = sText) :
  DN (N.set y.toNat { ny with text := s ++ x }) ({ g with ts := us ++ [.lf sText (s ++ x)] } :: R) := by
 have h1 := aB3 hy
 have hy' : N[y.toNat]? = some ny := by unfold gN at hy; rw [if_pos h1.1] at hy; exact hy
 have at_ : gN (N.set y.toNat { ny with text := s ++ x }) y = some { ny with text := s ++ x } := by
  unfold gN; rw [if_pos h1.1, aAz hy', if_pos rfl]
 have hd : Dif N (N.set y.toNat { ny with text := s ++ x }) y := fun z n hz ne => by
  have h2 := aB3 hz
  unfold gN at hz ⊢
  rw [if_pos h2.1] at hz ⊢
  rw [aAz hy', if_neg (by exact oz282 h1 ne h2)]; exact hz
 have k := h.fm g (.head _)
 have ypar : ny.parent = g.id := by
  obtain ⟨n, e1, e2⟩ := k.fits.node y (by rw [hi]; simp)
  rwa [hy] at e1; exact e2
 have yout : y ∉ opens (g :: R) := k.out y (by rw [hi]; simp)
 have bigy : y ≠ 0 ∧ y ≠ 1 := ⟨fun e => yout (e ▸ .head _), fun e => yout (e ▸ .tail _ (.head _))⟩
 have over : ∀ f ∈ (g :: R), ∀ i ∈ f.ids, i ≠ y → ¬ Sub N i y := fun f hf i hii hne hsub => by
  cases hsub with
  | refl => exact hne rfl
  | up e hs2 =>
   rwa [hy] at e
   rw [ypar] at hs2
   exact h.apart hf aAx i hii hs2
 have nodup := k.nd
 rw [hi, List.append_assoc] at nodup
 have yis : y ∉ is := fun hm => by
  have := (List.nodup_append.mp nodup).2.2 y hm y (by simp)
  exact this rfl
 obtain ⟨d0, e0, r0⟩ := h.doc
 obtain ⟨d1, f0, q0⟩ := h.html
 refine ⟨⟨d0, hd _ _ e0 (Ne.symm bigy.1), r0⟩, ⟨d1, hd _ _ f0 (Ne.symm bigy.2), q0⟩, fun f hf => ?_, h.nd⟩
 have op : opens ({ g with ts := us ++ [.lf sText (s ++ x)] } :: R) = opens (g :: R) := rfl
 rw [op]
 rcases List.mem_cons.mp hf with rfl | hf
 ·obtain ⟨n, e1, r⟩ := k.node
  refine ⟨⟨n, hd _ _ e1 fun e => yout (e ▸ aAx), r⟩, ?_, k.out, k.nd, k.par, k.big⟩
  have hf2 := k.fits
  rw [hi, ht] at hf2
  refine hZ fun GZ kZ => ?_
  obtain ⟨us', vs', e2, g1, g2⟩ := hf2.split
  have l1 := g1.len
  have l2 := g2.len
  have : us = us' ∧ [Tr.lf sText s] = vs' := List.append_inj' e2 (by simpa using l2)
  obtain ⟨rfl, rfl⟩ := this
  refine kZ ?_
  show FitsL _ g.id g.ids (us ++ [.lf sText (s ++ x)])
  rw [hi]
  refine FitsL.append (g1.dif hd fun i hii => over g (.head _) i (by rw [hi]; simp [hii]) fun e => yis (e ▸ hii)) (.cons ?_ .nil)
  have := Fits.lf (N := N.set y.toNat { ny with text := s ++ x }) (p := g.id) (i := y) (n := { ny with text := s ++ x }) at_ ypar (.inl hk)
  have e : Tr.lf sText (s ++ x) = Tr.lf ({ ny with text := s ++ x } : Node).kind ({ ny with text := s ++ x } : Node).text := by
   show _ = Tr.lf ny.kind (s ++ x); rw [hk]
  rw [e]
  exact this
 ·have kf := h.fm f (.tail _ hf)
  obtain ⟨n, e1, r⟩ := kf.node
  have fy : f.id ≠ y := fun e => yout (e ▸ .tail _ (.tail _ (List.mem_map.mpr ⟨f, .tail _ hf, rfl⟩)))
  refine ⟨⟨n, hd _ _ e1 fy, r⟩, kf.fits.dif hd fun i hii => over f (.tail _ hf) i hii fun e => ?_, kf.out, kf.nd, kf.par, kf.big⟩
  subst e
  obtain ⟨m, z1, z2⟩ := kf.fits.node i hii
  rwa [hy] at z1
  have ne : f.id ≠ g.id := fun e => by
   have := h.nd
   rw [List.map_cons, List.nodup_cons] at this
   exact this.1 (e ▸ List.mem_map.mpr ⟨f, hf, rfl⟩)
  exact ne (z2.symm.trans ypar)
theorem DN.close {N : List Node} {k g : Fm} {R : List Fm} {r : List Int} (h : DN N (k :: g :: R)) (hk : k.nxt = []) (hp : k.par = g.id) (hn : g.nxt = k.id :: r) (hR : ∀ f ∈ (g :: R), f.par ≠ k.id) :
  DN N ({ g with ids := g.ids ++ [k.id], ts := g.ts ++ [.el k.nm k.at_ k.ts], nxt := r } :: R) := by
 have ok := h.fm k (.head _)
 have og := h.fm g (.tail _ (.head _))
 have nd := h.nd
 rw [List.map_cons, List.nodup_cons] at nd
 have mem : ∀ x, x ∈ opens ({ g with ids := g.ids ++ [k.id], ts := g.ts ++ [.el k.nm k.at_ k.ts], nxt := r } :: R) → x ∈ opens (k :: g :: R) ∧ x ≠ k.id := fun x hx => by
  have b := ok.big
  rcases List.mem_cons.mp hx with rfl | hx
  ·exact ⟨.head _, by exact oz277 b⟩
  ·rcases List.mem_cons.mp hx with rfl | hx
   ·exact ⟨.tail _ (.head _), by exact oz278 b⟩
   ·refine ⟨.tail _ (.tail _ (.tail _ hx)), fun e => nd.1 (e ▸ hx)⟩
 have mem2 : ∀ x, x ∈ opens (k :: g :: R) → x ≠ k.id → x ∈ opens ({ g with ids := g.ids ++ [k.id], ts := g.ts ++ [.el k.nm k.at_ k.ts], nxt := r } :: R) := fun x hx ne => by
  rcases List.mem_cons.mp hx with rfl | hx
  ·exact .head _
  ·rcases List.mem_cons.mp hx with rfl | hx
   ·exact .tail _ (.head _)
   ·rcases List.mem_cons.mp hx with e | hx
    ·exact absurd e ne
    ·exact .tail _ (.tail _ hx)
 refine ⟨h.doc, h.html, fun f hf => ?_, nd.2⟩
 rcases List.mem_cons.mp hf with rfl | hf
 ·refine hZ fun GZ kZ => ?_
  obtain ⟨n, e1, e2, e3, e4, e5, e6, e7⟩ := og.node
  obtain ⟨m, f1, f2, f3, f4, f5, f6, f7⟩ := ok.node
  refine kZ ?_
  refine ⟨⟨n, e1, e2, e3, e4, e5, e6, ?_⟩, ?_, ?_, ?_, mem2 _ og.par (hR g (.head _)), og.big⟩
  ·rw [e7, hn]; simp
  ·refine FitsL.append og.fits (.cons ?_ .nil)
   have kf := ok.fits
   have : FitsL N k.id m.kids k.ts := by rw [f7, hk, List.append_nil]; exact kf
   have z := Fits.el (N := N) (p := g.id) (i := k.id) f1 (f6.trans hp) f2 this
   rw [f4, f5] at z
   exact z
  ·intro i hi hm
   obtain ⟨q1, q2⟩ := mem i hm
   rcases List.mem_append.mp hi with hi | hi
   ·exact og.out i hi q1
   ·exact q2 (List.mem_singleton.mp hi)
  ·have := og.nd
   rw [hn] at this
   show ((g.ids ++ [k.id]) ++ r).Nodup
   rw [List.append_assoc]; exact this
 ·have kf := h.fm f (.tail _ (.tail _ hf))
  exact ⟨kf.node, kf.fits, fun i hi hm => kf.out i hi (mem i hm).1, kf.nd, mem2 _ kf.par (hR f (.tail _ hf)), kf.big⟩
end
section
section
variable {Γ : Cx} {fc : FC} {d : Nat} {ρ : Loc} {H : AH}
inductive PR (φ : Mp) (h : Heap) : List (Str × AV) → List (Value × Value) → Prop
 | nil : PR φ h [] []
 | cons {k : Str} {t : Tok} {v : AV} {y : Value} {es : List (Str × AV)} {vs : List (Value × Value)} : VR φ h v y → PR φ h es vs → PR φ h ((k, v) :: es) ((.str k t, y) :: vs)
noncomputable def PR.kvs : List (Value × Value) → List (Str × Value)
 | [] => []
 | (.str k _, y) :: r => (k, y) :: PR.kvs r
 | _ :: r => PR.kvs r
theorem PR.es {φ : Mp} {h : Heap} {es : List (Str × AV)} {vs : List (Value × Value)} (r : PR φ h es vs) : ES φ h es (PR.kvs vs) := by
 induction r with
 | nil => exact .nil
 | cons a _ ih => exact .cons a ih
theorem PR.carries {w : World} {φ : Mp} {h : Heap} {es : List (Str × AV)} {vs : List (Value × Value)} (r : PR φ h es vs) : Carries (strKind pw w) vs (PR.kvs vs) := by
 induction r with
 | nil => trivial
 | cons a _ ih => exact ⟨strKind_is _ _ _ _, rfl, ih⟩
noncomputable def psOf (p : Pos) : List (Option Expr) → List Expr → Env → List (Sem Value × Sem Value)
 | some k :: ks, v :: vs, env => (eval k env, do let x ← eval v env; standAt p; pure x) :: psOf p ks vs env
 | _, _, _ => []
structure Prs (Γ : Cx) (fc : FC) (d : Nat) (p : Pos) (ks : List (Option Expr)) (es : List Expr) (ρ : Loc) (H : AH) (Q : List (Str × AV) → AH → Prop) : Prop where
 go : ∀ (A : Around) (s : Shared) (φ : Mp) (L : Addr) (m : Str → Option Value), Room A d → fc.scope.kind = .function → Here Γ fc φ H ρ L m s.heap →
  wpAny (model pw Γ.w) A (evalPairs (psOf p ks es (fc.env L))) (fun vs s' => ∃ es H' φ', Q es H' ∧ PR φ' s'.heap es vs ∧ Go φ s φ' s' ∧ St Γ.w Γ.h₀ φ' H' s'.heap) noE s
theorem aJf {p : Pos} {Q : List (Str × AV) → AH → Prop} (h : Q [] H) : Prs Γ fc d p [] [] ρ H Q := Prs.mk fun A s φ L m R hk x => evalPairs_nil ⟨[], H, φ, h, .nil, Go.refl, x.st⟩
theorem aBb {k : Str} {kk : Nat} {kp pos : Pos} {e : Expr} {ks : List (Option Expr)} {es : List Expr} {Q : List (Str × AV) → AH → Prop} (h : Ev Γ fc d e ρ H (fun v H' => Prs Γ fc d pos ks es ρ H' (fun es H'' => Q ((k, v) :: es) H''))) :
  Prs Γ fc d pos (some (.Constant (.str k) kk kp) :: ks) (e :: es) ρ H Q := Prs.mk fun A s φ L m R hk x => by
 refine evalPairs_cons (wpAny_Constant_str ?_)
 have S0 : St Γ.w Γ.h₀ φ H ({ s with toks := s.toks + 1 } : Shared).heap := x.st
 refine wpAny_bind (aAa (α := Unit) (E := noE) h R hk (x.go (s' := { s with toks := s.toks + 1 }) Go.tok S0) fun v H' φ' y s' q r g x' => wpAny_bind (wpAny_standAt (wpAny_pure ?_)))
 refine aAf (q.go A s' φ' L m R hk x') fun vs s2 zz0 => by obtain ⟨es, H'', φ'', q2, r2, g2, S2⟩ := zz0; exact ⟨(k, v) :: es, H'', φ'', q2, .cons (r.go x'.st g2) r2, (Go.tok.trans g).trans g2, S2⟩
theorem aK3 {w : World} {h : Heap} {dx : Addr} (e : h.get? dx = some { cls := .type "dict", data := .dict #[] }) : h.DictOf (strKind pw w) dx [] := aFw e
theorem aJe {keys : List (Option Expr)} {vals : List Expr} {p : Pos} {Q : AV → AH → Prop} (i : Id) (hlen : ∀ env, Nat.ble (psOf p keys vals env).length 15 = true) (h0 : H i = .free)
  (h : Prs Γ fc d p keys vals ρ (upd H i (.live (.dcs []))) (fun es H' => H' i = .live (.dcs []) ∧ (es.map (·.1)).Nodup ∧ Q (.ref i) (upd H' i (.live (.dcs es)))))
  (hshape : ∀ env, (evalEachOpt keys env).zip ((evalEach vals env).map fun v => do let x ← v; standAt p; pure x) = (psOf p keys vals env).map fun p => (some p.1, p.2) := by intro _; rfl)
  (hne : ∀ env, (psOf p keys vals env).isEmpty = false := by intro _; rfl) : Ev Γ fc d (.Dict keys vals p) ρ H Q := Ev.mk fun A s φ L m R hk x => by
 refine wpAny_Dict_pairs (knd := strKind pw Γ.w) (hshape _) (fun e => by have := hne (fc.env L); rwa [e] at this) (Nat.le_of_ble_eq_true (hlen _)) ?_
 have e0 : (s.heap.push { cls := .type "dict", data := .dict #[] }).get? s.heap.objs.size = some { cls := .type "dict", data := .dict #[] } := Heap.get?_push_size _ rfl
 obtain ⟨g, S⟩ := x.st.alloc (Γ := Γ) (s := s) (t := s.toks) h0 (o := { cls := .type "dict", data := .dict #[] }) rfl aBd (.dcs []) ⟨[], aK3 e0, .nil⟩
 have x1 := x.go (s' := { s with heap := s.heap.push { cls := .type "dict", data := .dict #[] }, toks := s.toks }) g S
 refine aAf (h.go A { s with heap := s.heap.push { cls := .type "dict", data := .dict #[] }, toks := s.toks } _ L m R hk x1) fun vs s' zz0 => ?_
 refine hZ fun GZ kZ => ?_
 obtain ⟨es, H', φ', ⟨q1, q2, q3⟩, r2, g2, S2⟩ := zz0
 have ei : φ' i false = some s.heap.objs.size := g2.ext _ _ _ aB0
 obtain ⟨a, e1, kvs, D, r⟩ := S2.live _ _ q1
 rwa [ei] at e1
 cases r
 refine kZ ?_
 refine ⟨PR.kvs vs, r2.carries, D, fun h' D' hs' => ?_⟩
 have nd : ((PR.kvs vs).map (·.1)).Nodup := by rw [r2.es.keys]; exact q2
 rw [merged_nil_of_nodup _ nd] at D'
 obtain ⟨o5, _, _, e5, c5, _⟩ := id D'
 obtain ⟨g3, S3⟩ := S2.store (Γ := Γ) (t := s'.toks + vs.length) ei hs' q1 ⟨_, e5, by rw [c5.1]; exact aBd⟩ (ao' := .dcs es) (fun a2 e2 mono => by
  rwa [ei] at e2
  exact ⟨_, D', r2.es.mono' mono⟩)
 exact ⟨.ref i, _, φ', q3, .ref ei, (g.trans g2).trans g3, S3⟩
theorem aKt {p : Pos} {Q : AV → AH → Prop} (i : Id) (h0 : H i = .free) (h : Q (.ref i) (upd H i (.live (.dci [] 0)))) : Ev Γ fc d (.Dict [] [] p) ρ H Q := Ev.mk fun A s φ L m R hk x => by
 refine wpAny_Dict_empty ?_
 have e0 : (s.heap.push { cls := .type "dict", data := .dict #[] }).get? s.heap.objs.size = some { cls := .type "dict", data := .dict #[] } := Heap.get?_push_size _ rfl
 obtain ⟨g, S⟩ := x.st.alloc (Γ := Γ) (s := s) (t := s.toks) h0 (o := { cls := .type "dict", data := .dict #[] }) rfl aBd (.dci [] 0) ⟨[], ⟨_, #[], e0, ⟨rfl, rfl, rfl⟩, rfl, fun en he => by simp at he, .nil, List.nodup_nil⟩, .nil⟩
 exact ⟨.ref i, _, _, h, .ref aB0, g, S⟩
end
end
section
section
variable {Γ : Cx} {fc : FC} {d : Nat} {ρ : Loc} {H : AH}
noncomputable abbrev fcC (fc : FC) (scope : Scope) (cl : Addr → List (Str × Addr)) (L : Addr) : FC := ⟨relabel scope (fc.env L), fun _ => cl L, fc.qual, none, fc.code, fun _ => fc.frame L⟩
noncomputable abbrev fcE (a : Addr) : FC := ⟨default, fun _ => [("it", a)], default, none, .none, fun _ => none⟩
theorem aEv {a C b : Addr} : own (fcE a) C b ↔ b = C ∨ b = a := by
 constructor
 ·rintro (h | ⟨n, h⟩)
  ·exact .inl h
  ·simp at h; exact .inr h.2
 ·rintro (h | h)
  ·exact .inl h
  ·exact .inr ⟨"it", by simp [h]⟩
theorem aOt {a C : Addr} {φ φ' : Mp} {s s' : Shared} (g : GoL (fcE a) C φ s φ' s') (ha : s.heap.get? a = none) (hC : s.heap.get? C = none) : Go φ s φ' s' :=
 ⟨g.rest, g.al, fun b o e n => g.keep b o (fun ob => by
  rcases aEv.mp ob with rfl | rfl
  ·rwa [hC] at e
  ·rwa [ha] at e) e n, g.ext, g.new⟩
theorem aFy {a C b : Addr} {φ : Mp} {s : Shared} {h' : Heap} {t : Nat} (hb : b = C ∨ b = a) (hs : Heap.SameBut b s.heap h') (hal : ∃ o, h'.get? b = some o) : GoL (fcE a) C φ s φ { s with heap := h', toks := t } :=
 ⟨⟨_, _, rfl⟩, fun c e => aEx hs hal e, fun c o n e _ => (hs.2 c fun q => n (aEv.mpr (q ▸ hb))).trans e, fun _ _ _ e => e, fun _ _ _ e => .inl e⟩
theorem aKb {φ φ' : Mp} {s s' : Shared} {fc' : FC} {C b : Addr} (g : GoL fc' C φ s φ' s') (h : ¬ foot φ b) (hal : ∃ o, s.heap.get? b = some o) : ¬ foot φ' b := by
 rintro ⟨i, c, q⟩
 rcases g.new _ _ _ q with q | q
 ·exact h ⟨i, c, q⟩
 ·obtain ⟨o, e⟩ := hal; rwa [e] at q
theorem aCq {h : Heap} {b : Addr} (hb : h.objs.size ≤ b) : h.get? b = none := by
 cases q : h.get? b with
 | none => rfl
 | some o => exact absurd (Heap.lt_size q) (Nat.not_lt.mpr hb)
theorem aFr {elt iter : Expr} {x : Str} {px pos : Pos} {scope : Scope} {cl : Addr → List (Str × Addr)} {cap : Loc} (i j : Id) {l : List AV} {I : Nat → AH → Prop} {A : Around} {φ φ₂ : Mp} {s s₂ : Shared} {H₂ : AH} {L a c : Addr} {m : Str → Option Value} {RR : Value → Addr → Result → Shared → Prop}
  (Rm : Room A d) (x0 : Here Γ fc φ H ρ L m s.heap) (ha0 : s.heap.get? a = none) (g2 : Go φ s φ₂ s₂) (S2 : St Γ.w Γ.h₀ φ₂ H₂ s₂.heap) (fa2 : ¬ foot φ₂ a) (it0 : s₂.heap.IsListIter a c 0) (hj : φ₂ j false = some c)
  (hi : H₂ i = .free) (hI : I 0 (upd H₂ i (.live (.lst []))))
  (hk : scope.kind = .function) (hx : scope.names.lookup x = some .local) (hcell : ∀ y ∈ scope.names, y.2 ≠ .cell) (hcl : ∀ n b, (n, b) ∈ cl L → (n, b) ∈ fc.cells L) (hpw : (cl L).Pairwise fun x y => x.2 ≠ y.2)
  (hcap : ∀ y v, (y, v) ∈ cap → ∃ u, v = some u ∧ (y, some u) ∈ ρ ∧ fc.scope.names.lookup y = some .cell ∧ (relabel scope (fc.env L)).names.lookup y = some .cell ∧ ∀ b, (fc.cells L).lookup y = some b → (cl L).lookup y = some b)
  (hnd : (x :: cap.map (·.1)).Nodup)
  (hl : ∀ k H, I k H → H j = .live (.lst l))
  (hstep : ∀ k H₁ u, I k H₁ → l[k]? = some u → Ev Γ (fcC fc scope cl L) d elt ((x, some u) :: cap) H₁ (fun v H₂ => ∃ l', H₂ i = .live (.lst l') ∧ l'.length ≤ 1000000 ∧ I (k + 1) (upd H₂ i (.live (.lst (l' ++ [v]))))))
  (hfin : ∀ D C φ' H' mC s', GoL (fcE a) C φ s φ' s' → St Γ.w Γ.h₀ φ' H' s'.heap → s'.heap.Ns C mC → ¬ foot φ' a → ¬ foot φ' C → I l.length H' → φ' i false = some D → s.heap.get? C = none → RR (.ref D) C (.ok .next) s') :
  wpAny (model pw Γ.w) A (newList []) (fun acc s₃ => wpAny (model pw Γ.w) A (newFunctionEnv scope mainGlobals (cl L) [] fc.qual none .none (some (fc.env L))) (fun cenv s₄ =>
   codeAny (model pw Γ.w) A (.compStart (.ListComp elt [⟨.Name x px, iter, [], 0⟩] scope pos) 0 (.ref a) acc { cenv with scope := relabel scope (fc.env L) }) (RR acc cenv.locals) s₄) noE s₃) noE s₂ := by
 refine wpAny_newObj_type (wpAny_newFunctionEnv hcell (by intro y hy; simp at hy) (fun h₁ hns₁ hsb₁ => ?_) hk)
 dsimp only at hns₁ hsb₁ ⊢
 have hn := S2.free i hi
 obtain ⟨g3, S3⟩ := S2.alloc (Γ := Γ) (s := s₂) (t := s₂.toks) hi (o := { cls := .type "list", dict := none, data := .seq ([] : List Value).toArray }) rfl aBe (.lst []) ⟨[], 0, Heap.get?_push_size _ rfl, .nil⟩
 generalize hD : s₂.heap.objs.size = D at g3 S3 ⊢
 generalize hH3 : s₂.heap.push { cls := .type "list", dict := none, data := .seq ([] : List Value).toArray } = h3 at g3 S3 hns₁ hsb₁ ⊢
 have hC : h3.objs.size = D + 1 := by rw [← hH3, Heap.size_push, hD]
 generalize hCC : h3.objs.size = C at hns₁ hsb₁ ⊢
 have kk : ∀ b o, h3.get? b = some o → h₁.get? b = some o := fun b o e => hsb₁.extBut b o (by rw [← hCC]; exact Nat.ne_of_lt (Heap.lt_size e)) (Heap.get?_push_of_some _ e)
 obtain ⟨g4, S4⟩ := S3.grow (Γ := Γ) (s := { s₂ with heap := h3, toks := s₂.toks }) (h' := h₁) (t := s₂.toks + ([] : List (Str × Value)).length) kk
 have big : ∀ b o, s.heap.get? b = some o → b ≠ C := fun b o e q => by
  have nf : s₂.heap.get? b = none := aCq (by rw [hD]; rw [q, ← hCC, hC]; exact Nat.le_succ _)
  have := g2.al b nf
  rwa [e] at this
 have hC0 : s.heap.get? C = none := g2.al _ (aCq (by rw [hD, ← hCC, hC]; exact Nat.le_succ _))
 have aC : a ≠ C := fun q => by
  obtain ⟨o, e, _⟩ := it0
  rw [q, aCq (by rw [hD, ← hCC, hC]; exact Nat.le_succ _)] at e; cases e
 have aD : a ≠ D := fun q => by
  obtain ⟨o, e, _⟩ := it0
  rw [q, aCq (by rw [hD]; exact Nat.le_refl _)] at e; cases e
 have gg := (g2.trans g3).trans g4
 have fa : ¬ foot (put φ₂ i false D) a := by
  rintro ⟨k, b, q⟩
  rcases aB4 q with ⟨_, _, q⟩ | q
  ·exact aD q
  ·exact fa2 ⟨k, b, q⟩
 have fC : ¬ foot (put φ₂ i false D) C := by
  rintro ⟨k, b, q⟩
  have := aBg S3 q
  rw [hCC] at this; exact Nat.lt_irrefl _ this
 have a₀ : Γ.h₀.get? a = none := by
  cases q : Γ.h₀.get? a with
  | none => rfl
  | some o => rwa [x0.st.base _ _ q] at ha0
 have C₀ : Γ.h₀.get? C = none := by
  cases q : Γ.h₀.get? C with
  | none => rfl
  | some o => rwa [x0.st.base _ _ q] at hC0
 have it1 : h₁.IsListIter a c 0 := by
  obtain ⟨o, e1, e2, e3⟩ := it0
  exact ⟨o, kk _ _ (hH3 ▸ Heap.get?_push_of_some _ e1), e2, e3⟩
 have loop : ∀ s₃ : Shared, s₃ = { s₂ with heap := h₁, toks := s₂.toks + ([] : List (Str × Value)).length } →
   codeAny (model pw Γ.w) A (.compLoop (.ListComp elt [⟨.Name x px, iter, [], 0⟩] scope pos) 0 (.ref a) (.ref D) ((fcC fc scope cl L).env C)) (RR (.ref D) C) s₃ := by
  rintro s₃ rfl
  refine codeAny_compLoop_tests (fun n s' => ∃ k, n = l.length - k ∧ k ≤ l.length ∧ ∃ φk Hk mk, GoL (fcE a) C φ s φk s' ∧ St Γ.w Γ.h₀ φk Hk s'.heap ∧ s'.heap.Ns C mk ∧ ¬ foot φk a ∧ ¬ foot φk C ∧ s'.heap.IsListIter a c k ∧ I k Hk ∧ φk i false = some D ∧ φk j false = some c)
   ?_ l.length ⟨0, by omega, by omega, _, _, _, gg.toL, S4, hns₁, fa, fC, it1, hI, aB0, aB5 (hn _) hj⟩
  rintro n s₁ zz1
  refine hZ fun G1 kG1 => ?_
  obtain ⟨k, rfl, hkl, φ1, H1, m1, gk, S1, ns1, fa1, fC1, itk, hI1, hD1, hj1⟩ := zz1
  obtain ⟨b, fb, us, n2, q2, w2⟩ := S1.live _ _ (hl k H1 hI1)
  rwa [hj1] at fb
  have hl2 : s₁.heap.IsList c us.toArray := ⟨_, q2, rfl, _, rfl⟩
  have lu := w2.length
  have itC : ∃ o, s₁.heap.get? a = some o ∧ o.cls ≠ .type "tuple" := by
   obtain ⟨o, e1, e2, _⟩ := id itk
   exact ⟨o, e1, by rw [e2]; decide⟩
  rcases Nat.lt_or_ge k l.length with hlt | hge
  ·obtain ⟨u, hu⟩ : ∃ u, l[k]? = some u := ⟨_, List.getElem?_eq_getElem hlt⟩
   obtain ⟨z, hz, rz⟩ := w2.get hu
   refine kG1 ?_
   refine wpAny_mono (E := noE) (wpAny_pyNext_list_item itk hl2 (x := z) (by simpa using hz) fun h' hj' hs' => ?_) (fun _ _ q => q) fun _ _ e => e.elim
   have e1 : ExtG a s₁ { s₁ with heap := h' } := ⟨⟨h', s₁.toks, rfl⟩, fun b o n e => (hs'.2 b n).trans e⟩
   obtain ⟨tk1, S5⟩ := S1.ext e1 fa1 a₀ (fun o e => by obtain ⟨o2, e2, n2⟩ := itC; rwa [e] at e2; exact n2)
   have g5 : GoL (fcE a) C φ s φ1 { s₁ with heap := h' } := gk.trans (aFy (t := s₁.toks) (.inr rfl) hs' (by obtain ⟨o, e, _⟩ := hj'; exact ⟨o, e⟩))
   have ns5 : h'.Ns C m1 := ns1.sameBut hs' (Ne.symm aC)
   show wpAny _ A (assign (.Name x px) ((fcC fc scope cl L).env C) z) _ _ _
   refine wpAny_mono (E := noE) (PySem.wpAny_assign_Name (wpAny_storeName_local (env := (fcC fc scope cl L).env C) (lookup_relabel_local hx) ns5 (fun h2 hn2 hs2 => ?_) (by show (scope.kind == .class || (scope.kind == .module && C != mainGlobals)) = false; rw [hk]; rfl))) (fun _ _ q => q) fun _ _ e => e.elim
   have e2 : ExtG C { s₁ with heap := h' } { s₁ with heap := h2, toks := s₁.toks + 1 } := ⟨⟨h2, s₁.toks + 1, rfl⟩, fun b o n e => (hs2.2 b n).trans e⟩
   have cT : ∀ o, h'.get? C = some o → o.cls ≠ .type "tuple" ∨ ∀ vs n, o.data ≠ .seq vs n := fun o e => by
    obtain ⟨o2, _, _, e3, d3, _⟩ := id ns5
    rwa [e] at e3
    exact .inr fun vs n q => by rwa [d3] at q
   have tk2 : TK h' h2 := fun b vs n q => (hs2.2 b fun z => by
    rcases cT (tupO vs n) ((congrArg _ z).symm.trans q) with w | w
    ·exact w rfl
    ·exact w _ _ rfl).trans q
   have S6 : St Γ.w Γ.h₀ φ1 H1 h2 := by
    have nf : ∀ {i b c}, φ1 i b = some c → c ≠ C := fun q e => fC1 ⟨_, _, e ▸ q⟩
    refine ⟨fun b o q => (hs2.2 b fun z => by rw [z, C₀] at q; cases q).trans (S5.base b o q), S5.above, fun i b c q => ?_, S5.inj, S5.free, fun i o q => ?_⟩
    ·obtain ⟨o, h1, h2'⟩ := S5.there _ _ _ q
     exact ⟨o, (hs2.2 c (nf q)).trans h1, h2'⟩
    ·obtain ⟨c, h1, h2'⟩ := S5.live i o q
     exact ⟨c, h1, h2'.move h1 (fun _ _ _ e => e) tk2 fun b' c' o' e1 e2 => (hs2.2 c' (nf e1)).trans e2⟩
   have g6 : GoL (fcE a) C φ s φ1 { s₁ with heap := h2, toks := s₁.toks + 1 } := g5.trans (aFy (t := s₁.toks + 1) (.inl rfl) hs2 (by obtain ⟨o, _, _, e, _⟩ := hn2; exact ⟨o, e⟩))
   have it6 : h2.IsListIter a c (k + 1) := by
    obtain ⟨o, e, r⟩ := hj'
    exact ⟨o, (hs2.2 a aC).trans e, r⟩
   have tkS : TK s.heap h2 := fun b vs n q => by
    have nb : ¬ foot φ b := by
     rintro ⟨i', b', q'⟩
     obtain ⟨o', e', n'⟩ := x0.st.there _ _ _ q'
     rwa [q] at e'; exact n' rfl
    refine g6.keep b _ (fun ob => ?_) q nb
    rcases aEv.mp ob with e | e
    ·exact big b _ q e
    ·rw [e, ha0] at q; cases q
   have keepO : ∀ b o, (∃ n, (n, b) ∈ fc.cells L) → s.heap.get? b = some o → h2.get? b = some o ∧ ¬ foot φ1 b := fun b o hb e => by
    obtain ⟨k1, k2, _⟩ := x0.ow b (.inr hb)
    have no : ¬ own (fcE a) C b := fun ob => by
     rcases aEv.mp ob with e' | e'
     ·exact big b _ e e'
     ·rw [e', ha0] at e; cases e
    exact ⟨g6.keep b o no e k2, aKb g6 k2 ⟨o, e⟩⟩
   have hx1 : (relabel scope (fc.env L)).names.lookup x = some .local := lookup_relabel_local hx
   have capV : ∀ y v, (y, v) ∈ cap → ∃ u b w, v = some u ∧ (cl L).lookup y = some b ∧ (relabel scope (fc.env L)).names.lookup y = some .cell ∧ h2.IsCell b (some w) ∧ VR φ1 h2 u w := fun y v hy => by
    obtain ⟨u, rfl, h1, h2', h3', h4'⟩ := hcap y v hy
    obtain ⟨w, vw, rw_⟩ := x0.lr.val y u h1
    rcases vw with ⟨q, _⟩ | ⟨_, b, q1, q2⟩
    ·rwa [h2'] at q
    ·obtain ⟨oc, e, de⟩ := q2
     have := keepO b oc ⟨_, mem_of_lookup q1⟩ e
     exact ⟨u, b, w, rfl, h4' b q1, h3', ⟨oc, this.1, de⟩, rw_.mono g6.ext tkS⟩
   have hereC : Here Γ (fcC fc scope cl L) φ1 H1 ((x, some u) :: cap) C (fun y => if y = x then some z else m1 y) h2 := by
    refine ⟨hn2, fun b ob => ?_, hpw, fun n c' hm => ?_, ⟨?_, fun p hp => ?_, fun y v hy => ?_⟩, S6⟩
    ·rcases ob with z | ⟨n, hb⟩
     ·rw [z]
      obtain ⟨o, _, _, e, d', _⟩ := id hn2
      exact ⟨C₀, fC1, o, e, fun vs n q => by rwa [d'] at q⟩
     ·have hb' := hcl n b hb
      obtain ⟨k1, k2, o, k3, k4⟩ := x0.ow b (.inr ⟨n, hb'⟩)
      have := keepO b o ⟨n, hb'⟩ k3
      exact ⟨k1, this.2, o, this.1, k4⟩
    ·obtain ⟨_, _, o, k3, _⟩ := x0.ow c' (.inr ⟨n, hcl n c' hm⟩)
     exact big c' o k3
    ·exact hnd
    ·rcases List.mem_cons.mp hp with rfl | hp
     ·exact .inl hx1
     ·obtain ⟨u', b, w, _, q1, q2, q3, _⟩ := capV p.1 p.2 hp
      exact .inr ⟨q2, b, _, q1, q3⟩
    ·rcases List.mem_cons.mp hy with e | hy
     ·cases e
      refine ⟨z, .inl ⟨hx1, if_pos rfl⟩, ?_⟩
      exact (rz.mono (φ' := φ1) (fun _ _ _ e => e) tk1).mono (fun _ _ _ e => e) tk2
     ·obtain ⟨u', b, w, e, q1, q2, q3, q4⟩ := capV y (some v) hy
      cases e
      exact ⟨w, .inr ⟨q2, b, q1, q3⟩, q4⟩
   refine wpAny_tests_nil ?_
   rw [if_pos rfl]
   refine wpAny_mono ((hstep k H1 u hI1 hu).go A { s₁ with heap := h2, toks := s₁.toks + 1 } φ1 C _ Rm hk hereC) (fun y s7 q7 => ?_) fun _ _ e => e.elim
   obtain ⟨v, H7, φ7, ⟨l', hi7, hz7, hI7⟩, r7, g7, S7⟩ := q7
   have hD7 := g7.ext _ _ _ hD1
   refine wpAny_mono ((aA5 (Γ := Γ) (d := d) (Q := fun _ H' => I (k + 1) H') hi7 hz7 hI7).go A s7 φ7 [.ref D, y] Rm S7 (.cons (.ref hD7) (.cons r7 .nil))) (fun y' s8 q8 => ?_) fun _ _ e => e.elim
   obtain ⟨v8, H8, φ8, hI8, _, g8, S8⟩ := q8
   have g78 := g7.trans g8
   have keep78 : ∀ b o, ¬ foot φ1 b → h2.get? b = some o → s8.heap.get? b = some o := fun b o n e => g78.keep b o e n
   have it8 : s8.heap.IsListIter a c (k + 1) := by
    obtain ⟨o, e, r⟩ := it6
    exact ⟨o, keep78 a o fa1 e, r⟩
   refine ⟨l.length - (k + 1), by exact oz300 hlt, k + 1, rfl, by exact oz284 hlt, φ8, H8, _, g6.trans g78.toL, S8, Ns.move hn2 fun o e => keep78 C o fC1 e, ?_, ?_, it8, hI8, g78.ext _ _ _ hD1, g78.ext _ _ _ hj1⟩
   ·obtain ⟨o, e, _⟩ := it6
    exact aKb (fc' := fcE a) (C := C) g78.toL fa1 ⟨o, e⟩
   ·obtain ⟨o, _, _, e, _⟩ := hn2
    exact aKb (fc' := fcE a) (C := C) g78.toL fC1 ⟨o, e⟩
  ·have hke : k = l.length := by exact oz285 hkl hge
   subst hke
   refine kG1 ?_
   refine wpAny_mono (E := noE) (wpAny_pyNext_list_end Rm.handled itk hl2 (by simp [lu]) fun h' he => ?_) (fun _ _ q => q) fun _ _ e => e.elim
   have e1 : ExtG a s₁ { s₁ with heap := h' } := ⟨⟨h', s₁.toks, rfl⟩, he⟩
   obtain ⟨tk1, S5⟩ := S1.ext e1 fa1 a₀ (fun o e => by obtain ⟨o2, e2, n2⟩ := itC; rwa [e] at e2; exact n2)
   have g5 : GoL (fcE a) C φ s φ1 { s₁ with heap := h' } := by
    refine ⟨?_, fun b e => ?_, fun b o n e nf => he b o (fun q => n (aEv.mpr (.inr q))) (gk.keep b o n e nf), gk.ext, gk.new⟩
    ·obtain ⟨h9, t9, rfl⟩ := gk.rest; exact ⟨h', t9, rfl⟩
    ·by_cases q : b = a
     ·rw [q]; exact ha0
     ·refine gk.al b ?_
      cases z : s₁.heap.get? b with
      | none => rfl
      | some o => rwa [he b o q z] at e
   exact hfin D C φ1 H1 m1 { s₁ with heap := h' } g5 S5 (Ns.move ns1 fun o e => he C o (Ne.symm aC) e) fa1 fC1 hI1 hD1 hC0
 exact codeAny_compStart_list (loop _ rfl) (wpAny_pyIter_listiter it1 (loop _ rfl))
theorem St.other {φ : Mp} {s : Shared} {C : Addr} {h' : Heap} (S : St Γ.w Γ.h₀ φ H s.heap) (fC : ¬ foot φ C) (h0 : Γ.h₀.get? C = none) (hT : ∀ vs n, s.heap.get? C ≠ some (tupO vs n)) (hs : Heap.SameBut C s.heap h') : TK s.heap h' ∧ St Γ.w Γ.h₀ φ H h' := by
 have nf : ∀ {i b c}, φ i b = some c → c ≠ C := fun q e => fC ⟨_, _, e ▸ q⟩
 have tk : TK s.heap h' := fun b vs n q => (hs.2 b fun z => hT vs n (z ▸ q)).trans q
 refine ⟨tk, fun b o q => (hs.2 b fun z => by subst z; rwa [h0] at q).trans (S.base b o q), S.above, fun i b c q => ?_, S.inj, S.free, fun i o q => ?_⟩
 ·obtain ⟨o, h1, h2⟩ := S.there _ _ _ q
  exact ⟨o, (hs.2 c (nf q)).trans h1, h2⟩
 ·obtain ⟨c, h1, h2⟩ := S.live i o q
  exact ⟨c, h1, h2.move h1 (fun _ _ _ e => e) tk fun b' c' o' e1 e2 => (hs.2 c' (nf e1)).trans e2⟩
theorem aG0 {h : Heap} {C : Addr} {m : Str → Option Value} (n : h.Ns C m) : ∀ vs k, h.get? C ≠ some (tupO vs k) := fun vs k e => by
 obtain ⟨o, _, _, e', d, _⟩ := n
 rwa [e] at e'; cases d
theorem aQt {C : Addr} {φ φ' : Mp} {s s' : Shared} {h' : Heap} (g : Go φ s φ' s') (hC : s.heap.get? C = none) (hs : Heap.SameBut C s'.heap h') : Go φ s φ' { s' with heap := h' } := by
 obtain ⟨h1, t1, e1⟩ := g.rest
 subst e1
 refine ⟨⟨h', t1, rfl⟩, fun b e => ?_, fun b o e n => ?_, g.ext, g.new⟩
 ·by_cases q : b = C
  ·rw [q]; exact hC
  ·exact g.al b ((hs.2 b q).symm.trans e)
 ·have q : b ≠ C := fun q => by rw [q, hC] at e; cases e
  exact (hs.2 b q).trans (g.keep b o e n)
structure CompOk (fc : FC) (scope : Scope) (cl : Addr → List (Str × Addr)) (x : Str) (cap : Loc) (ρ : Loc) : Prop where
 clos : ∀ L, closureFor scope (fc.env L) = pure (cl L)
 kind : scope.kind = .function
 cell : ∀ y ∈ scope.names, y.2 ≠ .cell
 names : ∀ y ∈ scope.names, y.2 = .local → scope.names.lookup y.1 = some .local
 xl : scope.names.lookup x = some .local
 sub : ∀ L n b, (n, b) ∈ cl L → (n, b) ∈ fc.cells L
 pw : ∀ L, (cl L).Pairwise fun x y => x.2 ≠ y.2
 caps : ∀ L y v, (y, v) ∈ cap → ∃ u, v = some u ∧ (y, some u) ∈ ρ ∧ fc.scope.names.lookup y = some .cell ∧ (relabel scope (fc.env L)).names.lookup y = some .cell ∧ ∀ b, (fc.cells L).lookup y = some b → (cl L).lookup y = some b
 nd : (x :: cap.map (·.1)).Nodup
theorem aNc {elt iter : Expr} {x : Str} {px pos : Pos} {scope : Scope} {cl : Addr → List (Str × Addr)} {cap : Loc} {Q : AV → AH → Prop} (i j : Id) (l : List AV) (I : Nat → AH → Prop) (ok : CompOk fc scope cl x cap ρ)
  (h : Ev Γ fc d iter ρ H (fun v H' => v = .ref j ∧ H' j = .live (.lst l) ∧ H' i = .free ∧ I 0 (upd H' i (.live (.lst [])))))
  (hl : ∀ k H, I k H → H j = .live (.lst l))
  (hstep : ∀ L k H₁ u, I k H₁ → l[k]? = some u → Ev Γ (fcC fc scope cl L) d elt ((x, some u) :: cap) H₁ (fun v H₂ => ∃ l', H₂ i = .live (.lst l') ∧ l'.length ≤ 1000000 ∧ I (k + 1) (upd H₂ i (.live (.lst (l' ++ [v]))))))
  (hQ : ∀ H₁, I l.length H₁ → Q (.ref i) H₁) (hs : ∀ env x, foldedSetIterable iter env x = pure x := by intro _ _; rfl) : Ev Γ fc d (.ListComp elt [⟨.Name x px, iter, [], 0⟩] scope pos) ρ H Q := Ev.mk fun A s φ L m R hkf x0 => by
 rw [eval_ListComp]
 refine wpAny_comprehension_free (use := none) rfl (hs _) (ok.clos L) ok.kind ok.names (aAa (α := Unit) (E := noE) h R hkf x0 fun v H' φ' y s' ⟨hv, hj, hi, hI⟩ r g x' => ?_)
 refine hZ fun GZ kZ => ?_
 subst hv
 obtain ⟨c, rfl, ec⟩ := r.refI
 obtain ⟨c1, f1, vs, n', q1, w1⟩ := x'.st.live _ _ hj
 rwa [ec] at f1
 refine kZ ?_
 refine wpAny_pyIter_list ⟨_, q1, rfl, _, rfl⟩ ?_
 obtain ⟨g2, S2⟩ := x'.st.pushed (Γ := Γ) (s := s') { cls := .type "list_iterator", data := .fields #[.ref c, .int 0 0] } (t := s'.toks)
 have fr : s'.heap.get? s'.heap.objs.size = none := aAs
 have nfoot : ¬ foot φ' s'.heap.objs.size := fun ⟨i, b, q⟩ => by
  obtain ⟨o, e, _⟩ := x'.st.there _ _ _ q
  rwa [fr] at e
 refine aFr (RR := fun acc C => compPost (model pw Γ.w) A noE none (Post Γ φ s Q) acc C) (s := s) (L := L) i j R x0 (g.al _ fr) (g.trans g2) S2 nfoot ⟨_, Heap.get?_push_size _ rfl, rfl, rfl⟩ (g2.ext _ _ _ ec) hi hI ok.kind ok.xl ok.cell (ok.sub L) (ok.pw L) (ok.caps L) ok.nd hl (hstep L) fun D C φ5 H5 m5 s5 g5 S5 n5 fa5 fC5 hI5 hD5 hC0 => ?_
 refine ⟨m5, n5, fun h' hs' => ?_⟩
 have C₀ : Γ.h₀.get? C = none := by
  cases q : Γ.h₀.get? C with
  | none => rfl
  | some o => rwa [x0.st.base _ _ q] at hC0
 obtain ⟨tk, S6⟩ := S5.other (Γ := Γ) fC5 C₀ (aG0 n5) hs'
 exact ⟨.ref i, H5, φ5, hQ _ hI5, .ref hD5, aQt (aOt g5 (g.al _ fr) hC0) hC0 hs', S6⟩
theorem aTw {elt iter : Expr} {x y : Str} {px py pos spos : Pos} {scope : Scope} {cl : Addr → List (Str × Addr)} {cap : Loc} {Q : AF → Loc → AH → Prop} (i j : Id) (l : List AV) (I : Nat → AH → Prop) (ok : CompOk fc scope cl x cap ρ)
  (h : Ev Γ fc d iter ρ H (fun v H' => v = .ref j ∧ H' j = .live (.lst l) ∧ H' i = .free ∧ I 0 (upd H' i (.live (.lst [])))))
  (hl : ∀ k H, I k H → H j = .live (.lst l))
  (hstep : ∀ L k H₁ u, I k H₁ → l[k]? = some u → Ev Γ (fcC fc scope cl L) d elt ((x, some u) :: cap) H₁ (fun v H₂ => ∃ l', H₂ i = .live (.lst l') ∧ l'.length ≤ 1000000 ∧ I (k + 1) (upd H₂ i (.live (.lst (l' ++ [v]))))))
  {ρ' : Loc} (hp : Put y (.ref i) ρ ρ') (hQ : ∀ H₁, I l.length H₁ → Q .next ρ' H₁) (hs : ∀ env x, foldedSetIterable iter env x = pure x := by intro _ _; rfl)
  (hsw : ∀ L, swapsWith (.ListComp elt [⟨.Name x px, iter, [], 0⟩] scope pos) (some (.Name y py)) spos.line (fc.env L) = pure true) : Ex Γ fc d (.Assign [.Name y py] (.ListComp elt [⟨.Name x px, iter, [], 0⟩] scope pos) spos) ρ H Q := Ex.mk fun A s φ L m R hkf x0 => by
 rw [exec_Assign_Name_used _ _ _ _ (hsw _)]
 refine wpAny_bind (wpAny_standAt (wpAny_bind ?_))
 show wpAny _ A (do let _ ← comprehension (.ListComp elt [⟨.Name x px, iter, [], 0⟩] scope pos) scope (fc.env L) _ (newList []) false (eval iter (fc.env L)) (some (assign (.Name y py) (fc.env L)))) _ _ s
 refine wpAny_bind (aAf (wpAny_comprehension_free (use := some (assign (.Name y py) (fc.env L))) (Q := fun _ s' => PostF Γ fc L φ s Q .next s') (E := noE) rfl (hs _) (ok.clos L) ok.kind ok.names (aAa (α := Unit) (E := noE) h R hkf x0 fun v H' φ' y' s' ⟨hv, hj, hi, hI⟩ r g x' => ?_)) (fun _ s' hq => wpAny_pure (wpAny_pure hq)))
 refine hZ fun GZ kZ => ?_
 subst hv
 obtain ⟨c, rfl, ec⟩ := r.refI
 obtain ⟨c1, f1, vs, n', q1, w1⟩ := x'.st.live _ _ hj
 rwa [ec] at f1
 refine kZ ?_
 refine wpAny_pyIter_list ⟨_, q1, rfl, _, rfl⟩ ?_
 obtain ⟨g2, S2⟩ := x'.st.pushed (Γ := Γ) (s := s') { cls := .type "list_iterator", data := .fields #[.ref c, .int 0 0] } (t := s'.toks)
 have fr : s'.heap.get? s'.heap.objs.size = none := aAs
 have nfoot : ¬ foot φ' s'.heap.objs.size := fun ⟨i, b, q⟩ => by
  obtain ⟨o, e, _⟩ := x'.st.there _ _ _ q
  rwa [fr] at e
 refine aFr (RR := fun acc C => compPost (model pw Γ.w) A noE (some (assign (.Name y py) (fc.env L))) (fun _ s' => PostF Γ fc L φ s Q .next s') acc C) (s := s) (L := L) i j R x0 (g.al _ fr) (g.trans g2) S2 nfoot ⟨_, Heap.get?_push_size _ rfl, rfl, rfl⟩ (g2.ext _ _ _ ec) hi hI ok.kind ok.xl ok.cell (ok.sub L) (ok.pw L) (ok.caps L) ok.nd hl (hstep L) fun D C φ5 H5 m5 s5 g5 S5 n5 fa5 fC5 hI5 hD5 hC0 => ?_
 have C₀ : Γ.h₀.get? C = none := by
  cases q : Γ.h₀.get? C with
  | none => rfl
  | some o => rwa [x0.st.base _ _ q] at hC0
 have g6 := aOt g5 (g.al _ fr) hC0
 have x6 := x0.go g6 S5
 have nC : ∀ b, own fc L b → b ≠ C := fun b ob q => by
  obtain ⟨_, _, o, e, _⟩ := x0.ow b ob
  rw [q, hC0] at e; cases e
 refine PySem.wpAny_assign_Name (aCs hkf x6 hp (.ref hD5) fun m6 s6 g7 x7 => ?_)
 have keepC : ∀ o, s5.heap.get? C = some o → s6.heap.get? C = some o := fun o e => g7.keep C o (fun ob => nC C ob rfl) e fC5
 have n6 : s6.heap.Ns C m5 := Ns.move n5 keepC
 refine ⟨m5, n6, fun h' hs' => ?_⟩
 have fC6 : ¬ foot φ5 C := fC5
 obtain ⟨tk, S7⟩ := x7.st.other (Γ := Γ) fC6 C₀ (aG0 n6) hs'
 have g8 : GoL fc L φ s φ5 { s6 with heap := h' } := by
  have gg := g6.toL.trans g7
  obtain ⟨h1, t1, e1⟩ := gg.rest
  subst e1
  refine ⟨⟨h', t1, rfl⟩, fun b e => ?_, fun b o n e nf => ?_, gg.ext, gg.new⟩
  ·by_cases q : b = C
   ·rw [q]; exact hC0
   ·exact gg.al b ((hs'.2 b q).symm.trans e)
  ·have q : b ≠ C := fun q => by rw [q, hC0] at e; cases e
   exact (hs'.2 b q).trans (gg.keep b o n e nf)
 have ko : ∀ b o, own fc L b → s6.heap.get? b = some o → h'.get? b = some o := fun b o ob e => (hs'.2 b (nC b ob)).trans e
 refine ⟨.next, ρ', H5, φ5, m6, hQ _ hI5, .next, g8, ⟨Ns.move x7.ns fun o e => ko L o (.inl rfl) e, fun b ob => ?_, x7.ap, x7.nL, x7.lr.move ko fun v y r => r.mono (fun _ _ _ e => e) tk, S7⟩⟩
 refine hZ fun GZ kZ => ?_
 obtain ⟨k1, k2, o, k3, k4⟩ := x7.ow b ob
 refine kZ ?_
 exact ⟨k1, k2, o, ko b o ob k3, k4⟩
end
end
section
section
variable {Γ : Cx} {fc : FC} {d : Nat} {ρ : Loc} {H : AH}
theorem aMv {f : Addr} {args : List AV} {Q : AV → AH → Prop} {name qual : Str} {params : Arguments} {body : List Stmt} {scope : Scope} {dV kV doc pm cdv ct oc : Value} {an od : Option Addr} {osl : Array (Option Value)}
  (ho : (K Γ.w.params).lookup f = some ⟨oc, od, .func (fnOf name qual params body scope dV kV doc pm an cdv ct), osl⟩) (hcd : codeIn (K Γ.w.params) cdv qual = true)
  (ρ₀ : Loc) (c : Str) (hcells : ∀ n, cellsFrom n scope.names [] = [(c, n)])
  (hb : ∀ (s : Shared) (φ : Mp) (xs : List Value), (K Γ.w.params).In s.heap → VRs φ s.heap args xs → ∃ binds, BindsTo s (fnOf name qual params body scope dV kV doc pm an cdv ct) ⟨xs, []⟩ binds ∧
   (∀ y ∈ binds, scope.names.lookup y.1 = some .local ∨ y.1 = c) ∧
   ∀ x v, (x, some v) ∈ ρ₀ → ∃ y, VR φ s.heap v y ∧ ((scope.names.lookup x = some .local ∧ bindL (fun n => scope.names.lookup n) binds (fun _ => none) x = some y) ∨ (x = c ∧ bindC (fun n => scope.names.lookup n) binds (fun _ => none) x = some y)))
  (hnd : (ρ₀.map (·.1)).Nodup) (hc : scope.names.lookup c = some .cell) (hloc : ∀ p ∈ ρ₀, scope.names.lookup p.1 = some .local ∨ p.1 = c) (hk : scope.kind = .function) (hco : scope.isCoroutine = false) (hgen : scope.isGenerator = false)
  (h : Exs Γ (fnC qual scope f cdv) d body ρ₀ H (fun fl ρ' H' => match fl with | .ret v => Q v H' | _ => Q .none H')) : Cd Γ (d + 1) (.ref f) args H Q := Cd.mk fun A s φ xs R S r => by
 have X := S.inK
 obtain ⟨binds, hbd, hbl, hbv⟩ := hb s φ xs X r
 let fd := fnOf name qual params body scope dV kV doc pm an cdv ct
 have lk : ∀ n, ((c, n) :: ([] : List (Str × Addr))).lookup c = some n := fun n => by simp [List.lookup]
 refine codeAny_call_function (fd := fd) (by have := R.depth; unfold recursionLimit; exact oz301 this) (X _ _ ho) rfl hco hgen (body := body) rfl (codeRec_of X hcd) ?_
 refine hbd _ _ _ _ ?_
 refine wpAny_newFunctionEnv_cells hk (fun y hy => ?_) fun env he s' x => ?_
 ·rcases hbl y hy with e | e
  ·exact .inl e
  ·refine .inr ⟨e ▸ hc, ?_⟩
   show ((cellsFrom _ scope.names []).lookup y.1).isSome = true
   rw [hcells, e, lk]; rfl
 subst he
 refine ⟨Γ.lim.keeps fun b o e => x.toInCall.keep b o (S.base b o e), codeAny_func ?_⟩
 obtain ⟨h₁, tk, rfl⟩ := x.toInCall.same
 have hk₁ := x.toInCall.keep
 have ce : (fnC qual scope f cdv).cells s.heap.objs.size = [(c, s.heap.objs.size + 1)] := hcells _
 have R' : Room (A.deeper (callEnvC fd s.heap.objs.size f)) d := ⟨R.handled, by have := R.depth; show A.depth + 1 + 2 * d ≤ 900; exact oz298 this, by have := R.units; show A.units + 3 + 40 * d ≤ 9000; exact oz302 this⟩
 obtain ⟨g, S₁⟩ := S.grow (Γ := Γ) (h' := h₁) (t := tk) hk₁
 have xc : h₁.IsCell (s.heap.objs.size + 1) (bindC (fun n => scope.names.lookup n) binds (fun _ => none) c) := x.cell c _ (by show (cellsFrom _ scope.names []).lookup c = _; rw [hcells, lk])
 have nofoot : ∀ b, s.heap.objs.size ≤ b → Γ.h₀.get? b = none ∧ ¬ foot φ b := fun b hb => by
  refine ⟨?_, ?_⟩
  ·cases q : Γ.h₀.get? b with
   | none => rfl
   | some o => exact absurd (Heap.lt_size (S.base _ _ q)) (Nat.not_lt.mpr hb)
  ·rintro ⟨i, b', q⟩
   exact absurd (aBg S q) (Nat.not_lt.mpr hb)
 have hx : Here Γ (fnC qual scope f cdv) φ H ρ₀ s.heap.objs.size (bindL (fun n => scope.names.lookup n) binds fun _ => none) h₁ := by
  have hns := x.toInCall.ns
  obtain ⟨oL, _, _, eL, dL, _⟩ := id hns
  refine ⟨hns, fun b ob => ?_, by rw [ce]; exact List.pairwise_singleton _ _, fun n c' hm => ?_, ⟨hnd, fun p hp => ?_, fun y v hy => ?_⟩, S₁⟩
  ·rcases ob with rfl | ⟨n, e⟩
   ·exact ⟨(nofoot _ (Nat.le_refl _)).1, (nofoot _ (Nat.le_refl _)).2, oL, eL, fun vs n e => by rwa [dL] at e⟩
   ·rw [ce] at e
    cases List.mem_singleton.mp e
    obtain ⟨o, e1, e2⟩ := xc
    exact ⟨(nofoot _ (Nat.le_succ _)).1, (nofoot _ (Nat.le_succ _)).2, o, e1, fun vs n e => by rwa [e2] at e⟩
  ·rw [ce] at hm
   cases List.mem_singleton.mp hm
   exact Nat.succ_ne_self _
  ·rcases hloc p hp with e | e
   ·exact .inl e
   ·exact .inr ⟨e ▸ hc, _, _, by rw [ce, e, lk], xc⟩
  ·obtain ⟨z, rz, e⟩ := hbv y v hy
   refine ⟨z, ?_, rz.go S g⟩
   rcases e with ⟨e1, e2⟩ | ⟨rfl, e2⟩
   ·exact .inl ⟨e1, e2⟩
   ·exact .inr ⟨hc, _, by rw [ce, lk], by rw [← e2]; exact xc⟩
 refine wpAny_mono (h.go _ { s with heap := h₁, toks := tk } φ s.heap.objs.size _ R' hk hx) (fun fl s' p => ?_) fun _ _ e => e.elim
 obtain ⟨a, ρ', H', φ', m', q, fv, gl, x'⟩ := p
 have gg : Go φ s φ' s' := by
  obtain ⟨h2, t2, e2⟩ := gl.rest
  subst e2
  refine ⟨⟨_, _, rfl⟩, fun a e => g.al a (gl.al a e), fun b o e n => gl.keep b o (fun ob => ?_) (hk₁ b o e) n, gl.ext, fun i b a e => ?_⟩
  ·rcases ob with q | ⟨_, q⟩
   ·exact absurd (Heap.lt_size e) (by rw [q]; exact Nat.lt_irrefl _)
   ·rw [ce] at q
    cases List.mem_singleton.mp q
    exact absurd (Heap.lt_size e) (Nat.not_lt.mpr (Nat.le_succ _))
  ·rcases gl.new i b a e with q | q
   ·exact .inl q
   ·exact .inr (g.al a q)
 cases fv with
 | ret r => exact ⟨_, H', φ', q, r, gg, x'.st⟩
 | _ => exact ⟨.none, H', φ', q, .none, gg, x'.st⟩
mutual
inductive RdA (H : AH) : AV → PyData → Prop
 | none : RdA H .none .none
 | bool {b : Bool} : RdA H (.bool b) (.bool b)
 | int {i : Int} : RdA H (.int i) (.int i)
 | str {x : Str} : RdA H (.str x) (.str x)
 | tup {l : List AV} {xs : List PyData} : RdAs H l xs → RdA H (.tup l) (.tuple xs)
 | lst {i : Id} {l : List AV} {xs : List PyData} : H i = .live (.lst l) → RdAs H l xs → RdA H (.ref i) (.list xs)
inductive RdAs (H : AH) : List AV → List PyData → Prop
 | nil : RdAs H [] []
 | cons {v : AV} {x : PyData} {l : List AV} {xs : List PyData} : RdA H v x → RdAs H l xs → RdAs H (v :: l) (x :: xs)
end
theorem RdA.reads {w : World} {h₀ h : Heap} {φ : Mp} (S : St w h₀ φ H h) {v : AV} {x : PyData} {y : Value} (r : RdA H v x) (q : VR φ h v y) : ∃ as, Reads h y x as :=
 @RdA.rec H (fun v x _ => ∀ y, VR φ h v y → ∃ as, Reads h y x as) (fun l xs _ => ∀ ys, VRs φ h l ys → ∃ as, ReadsAll h ys xs as)
  (fun y q => by cases q; exact ⟨_, .none⟩) (fun y q => by cases q; exact ⟨_, .bool _⟩) (fun y q => by cases q; exact ⟨_, .int _ _⟩) (fun y q => by cases q; exact ⟨_, .str _ _⟩)
  (fun _ ih y q => by
   cases q with
   | tup e q =>
    obtain ⟨as, k⟩ := ih _ q
    exact ⟨as, .tuple e rfl rfl (by simpa using k)⟩)
  (fun hi _ ih y q => by
   cases q with
   | ref e =>
    obtain ⟨a, e', vs, n, e1, q⟩ := S.live _ _ hi
    rwa [e] at e'
    obtain ⟨as, k⟩ := ih _ q
    exact ⟨_, .list e1 rfl rfl (by simpa using k)⟩)
  (fun ys q => by cases q; exact ⟨_, .nil⟩)
  (fun _ _ a b ys q => by
   cases q with
   | cons q qs =>
    obtain ⟨as, k⟩ := a _ q
    obtain ⟨bs, ks⟩ := b _ qs
    exact ⟨_, .cons k ks⟩) _ _ r _ q
theorem aDh {v u : AV} {x y : PyData} (hx : RdA H v x) (hy : RdA H u y) (cx : x.canLay0 = true) (cy : y.canLay0 = true) (hd : x.depth ≤ 800) : Cm Γ d .NotEq v u H (!PyData.eqv x y) := Cm.mk fun A s φ a b R rm S r1 r2 h => by
 obtain ⟨as, k1⟩ := hx.reads S r1
 obtain ⟨bs, k2⟩ := hy.reads S r2
 refine compareNe_reads k1 k2 cx cy ?_ (h s Go.refl S)
 have := rm.units
 have : min x.depth y.depth ≤ x.depth := Nat.min_le_left _ _
 have : cLine = 9900 := rfl
 exact oz303 hd ‹_› ‹_› this
theorem aLz {v u : AV} {x y : PyData} (hx : RdA H v x) (hy : RdA H u y) (cx : x.canLay0 = true) (cy : y.canLay0 = true) (hd : x.depth ≤ 800) : Cm Γ d .Eq v u H (PyData.eqv x y) := Cm.mk fun A s φ a b R rm S r1 r2 h => by
 obtain ⟨as, k1⟩ := hx.reads S r1
 obtain ⟨bs, k2⟩ := hy.reads S r2
 refine compareEq_reads k1 k2 cx cy ?_ (h s Go.refl S)
 have := rm.units
 have : min x.depth y.depth ≤ x.depth := Nat.min_le_left _ _
 have : cLine = 9900 := rfl
 exact oz303 hd ‹_› ‹_› this
end
end
section
section
variable {Γ : Cx} {fc : FC} {d : Nat} {ρ : Loc} {H : AH}
theorem rangeAll (bs : List Bool) : ((List.range bs.length).all fun i => (bs[i]?).getD true) = bs.all id := by
 rw [Bool.eq_iff_iff, List.all_eq_true, List.all_eq_true]
 constructor
 ·intro h b hb
  obtain ⟨i, hi, e⟩ := List.getElem_of_mem hb
  have := h i (List.mem_range.mpr hi)
  simp only [List.getElem?_eq_getElem hi, Option.getD_some, e] at this
  exact this
 ·intro h i hi
  have hi' := List.mem_range.mp hi
  simp only [List.getElem?_eq_getElem hi', Option.getD_some]
  exact h _ (List.getElem_mem hi')
noncomputable def boolL (l : List Bool) : List AV := l.map .bool
theorem aVm {i : Id} {l : List Bool} {Q : AV → AH → Prop} (hi : H i = .live (.lst (boolL l))) (h : Q (.bool (l.all id)) H) : Cl Γ d (.builtin "all") [.ref i] H Q := Cl.mk fun A s φ xs R S r => by
 refine hZ fun GZ kZ => ?_
 obtain ⟨_, rfl, r1⟩ := r.one
 obtain ⟨c, rfl, e1⟩ := r1.refI
 obtain ⟨c1, f1, vs, n', q1, w1⟩ := S.live _ _ hi
 rwa [e1] at f1
 have hl : s.heap.IsList c vs.toArray := ⟨_, q1, rfl, _, rfl⟩
 have hlt : c < s.heap.objs.size := Heap.lt_size q1
 refine kZ ?_
 refine call_all_walk (wpAny_pyIter_list hl ?_)
 refine ⟨s.heap.objs.size, [s.heap.objs.size, c], [s.heap.objs.size], vs.toArray.size, _, _, fun i => (l[i]?).getD true, rfl, Walks.list (A := A.in1) R.handled _ c (Nat.ne_of_lt hlt) vs.toArray,
  ⟨⟨_, Heap.get?_push_size _ rfl, rfl, rfl⟩, hl.push _⟩, fun i v s' Q' E' hP hQ => ?_, fun h' tk hk => ?_⟩
 ·have hv : vs[i]? = some v := by simpa using hP
  have hil : i < l.length := by
   have := (List.getElem?_eq_some_iff.mp hv).1
   rw [w1.length] at this
   simpa [boolL] using this
  refine hZ fun GZ kZ => ?_
  obtain ⟨x, hx, rx⟩ := w1.get (k := i) (v := .bool l[i]) (by rw [boolL, List.getElem?_map, List.getElem?_eq_getElem hil]; rfl)
  rwa [hv] at hx
  cases rx
  simp only [List.getElem?_eq_getElem hil, Option.getD_some] at hQ
  refine kZ ?_
  exact wpAny_truthy_bool hQ
 ·have e : ((List.range vs.toArray.size).all fun i => (l[i]?).getD true) = l.all id := by
   rw [List.size_toArray, w1.length, boolL, List.length_map]; exact rangeAll l
  rw [e]
  have hkk : ∀ b x, s.heap.get? b = some x → h'.get? b = some x := fun b x e => hk b x (fun hm => by rw [List.mem_singleton.mp hm] at e; exact Nat.lt_irrefl _ (Heap.lt_size e)) (Heap.get?_push_of_some _ e)
  obtain ⟨g, S'⟩ := S.grow (Γ := Γ) (h' := h') (t := tk) hkk
  exact ⟨.bool _, H, φ, h, .bool _, g, S'⟩
theorem aKd : Value.type "dict_items" ≠ Value.type "tuple" := by decide
theorem aPf {i : Id} {es : List (Int × AV)} {ep : Nat} {Q : AV → AH → Prop} (k : Id) (hk : H k = .free) (hi : H i = .live (.dci es ep)) (h : Q (.ref k) (upd H k (.live (.itm i)))) : Cl Γ d (.builtin "dict.items") [.ref i] H Q := Cl.mk fun A s φ xs R S r => by
 refine hZ fun GZ kZ => ?_
 obtain ⟨_, rfl, r1⟩ := r.one
 obtain ⟨c, rfl, e1⟩ := r1.refI
 obtain ⟨c1, f1, kvs, D, w1⟩ := S.live _ _ hi
 rwa [e1] at f1
 have hn := S.free k hk
 refine kZ ?_
 obtain ⟨g2, S2⟩ := S.alloc (Γ := Γ) (s := s) (t := s.toks) hk (o := { cls := .type "dict_items", data := .fields #[.ref c] }) rfl aKd (.itm i)
  ⟨c, aB5 (hn _) e1, ⟨_, Heap.get?_push_size _ rfl, rfl, rfl⟩⟩
 refine call_meetsIn PySem.F.slot_dict_items D.dictOf.mapOf.typeIs PySem.F.entry_dict_items (PySem.F.args_dict_items_1 _) (meets_dict_items (intKind pw Γ.w) c (sysM S e1)) ⟨⟨kvs, D.dictOf⟩, ?_⟩
 exact ⟨.ref k, _, _, h, .ref aB0, g2, S2⟩
theorem ES.get {φ : Mp} {h : Heap} {T : Type} {es : List (T × AV)} {xs : List (T × Value)} (r : ES φ h es xs) {k : Nat} {p : T × AV} (e : es[k]? = some p) : ∃ x, xs[k]? = some (p.1, x) ∧ VR φ h p.2 x := by
 induction r generalizing k with
 | nil => cases e
 | cons a _ ih =>
  cases k with
  | zero => cases e; exact ⟨_, rfl, a⟩
  | succ k => exact ih e
theorem aPp {e : Expr} {elts : List Expr} {x1 : Nat} {p : Pos} {Q : List AV → (AH → Prop) → AH → Prop}
  (h : Ev Γ fc d e ρ H (fun v H' => ∃ k i es ep, v = .ref k ∧ H' k = .live (.itm i) ∧ H' i = .live (.dci es ep) ∧ Q (es.map fun p => .tup [.int p.1, p.2]) (fun H => H i = .live (.dci es ep)) H')) : It Γ fc d e (.Tuple elts x1 p) ρ H Q := It.mk fun A s φ L m R hk x =>
 aAa (α := Unit) (E := noE) h R hk x fun v H' φ' y s' zz0 r g x' => by
  refine hZ fun GZ kZ => ?_
  obtain ⟨k, i, es, ep, hv, hik, hi, q⟩ := zz0
  subst hv
  cases r
  refine kZ ?_
  rename_i a ea
  refine hZ fun GZ kZ => ?_
  obtain ⟨a1, f1, da, fd, iv⟩ := x'.st.live _ _ hik
  rwa [ea] at f1
  obtain ⟨d1, f2, kvs, D, w1⟩ := x'.st.live _ _ hi
  rwa [fd] at f2
  have len := w1.length
  refine kZ ?_
  refine wpAny_pyIter_items iv D ?_
  obtain ⟨g2, S2⟩ := x'.st.pushed (Γ := Γ) (s := s') { cls := .type "dict_itemiterator", data := .fields #[.none, .bool false, .ref da, .int 0 0, .int kvs.length 0, .int ep 0, .none, .none] } (t := s'.toks)
  have fr : s'.heap.get? s'.heap.objs.size = none := aAs
  have nfoot : ¬ foot φ' s'.heap.objs.size := fun zz0 => by
   obtain ⟨i, b, q⟩ := zz0
   obtain ⟨o, e, _⟩ := x'.st.there _ _ _ q
   rwa [fr] at e
  have itT : Value.type "dict_itemiterator" ≠ Value.type "tuple" := by decide
  refine ⟨_, _, _, H', φ', fun j h => ∃ ok ov, IsItemIter h s'.heap.objs.size da j es.length ep ok ov, rfl, q, g.trans g2, S2, g.al _ fr, nfoot, ⟨.none, .none, by rw [← len]; exact Heap.get?_push_size _ rfl⟩, ⟨?_, ?_, ?_, ?_⟩⟩
  ·rintro j h h' ⟨ok, ov, e1⟩ hh
   exact ⟨ok, ov, hh _ e1⟩
  ·rintro j h ⟨ok, ov, e1⟩
   exact ⟨_, e1, itT⟩
  ·intro A s1 φ1 H1 j u R1 hK S1 hx ht hf hJ hu
   refine hZ fun GZ kZ => ?_
   obtain ⟨ok, ov, hJ⟩ := hJ
   obtain ⟨b, fb, kv2, D2, w2⟩ := S1.live _ _ hK
   have eb := hx _ _ _ fd
   rwa [eb] at fb
   have len2 := w2.length
   rw [List.getElem?_map] at hu
   obtain ⟨pr, hp, rfl⟩ := Option.map_eq_some_iff.mp hu
   obtain ⟨z, hz, rz⟩ := w2.get hp
   refine kZ ?_
   refine wpAny_pyNext_items_item (knd := intKind pw Γ.w) (by rw [len2]; exact hJ) D2 hz fun key h' hkey hit hsz htp hkp => ⟨_, rfl, ?_⟩
   refine wpAny_letOwnedTupleGo_items hit fun h2 hit2 hs2 => ?_
   have aS : s'.heap.objs.size ≠ s1.heap.objs.size := fun q => by
    have := Heap.lt_size hJ
    rw [q] at this
    exact Nat.lt_irrefl _ this
   have kp : ∀ b o, b ≠ s'.heap.objs.size → s1.heap.get? b = some o → h2.get? b = some o := fun b o n e => hs2.extBut b o n (hkp b o n e)
   refine ⟨⟨⟨h2, s1.toks, rfl⟩, kp⟩, ⟨_, _, by rw [← len2]; exact hit2⟩, ?_⟩
   obtain ⟨t, rfl⟩ := Value.isInt_shape hkey
   have tk : TK s1.heap h2 := fun b vs n e => kp b _ (fun q => by
    subst q
    rw [hJ] at e; exact absurd (congrArg Obj.cls (Option.some.inj e)) itT) e
   refine .tup (vs := [.int pr.1 t, z]) (n := 0) (hs2.extBut _ _ (Ne.symm aS) hsz) (.cons (.int _ _) (.cons (rz.mono (fun _ _ _ e => e) tk) .nil))
  ·intro A s1 φ1 H1 R1 hK S1 hx ht hf hJ
   refine hZ fun GZ kZ => ?_
   obtain ⟨ok, ov, hJ⟩ := hJ
   obtain ⟨b, fb, kv2, D2, w2⟩ := S1.live _ _ hK
   have eb := hx _ _ _ fd
   rwa [eb] at fb
   have len2 := w2.length
   refine kZ ?_
   refine wpAny_pyNext_items_end (knd := intKind pw Γ.w) R1.handled (by rw [len2]; exact hJ) D2 (by simp [len2]) fun h' he => ⟨rfl, ⟨h', s1.toks, rfl⟩, he⟩
end
end
section
section
variable {Γ : Cx} {fc : FC} {d : Nat} {ρ : Loc} {H : AH}
structure Scr (h : Heap) (a : Addr) (ns : List Int) : Prop where
 at_ : ∃ vs : List Value, h.IsList a vs.toArray ∧ vs.length = ns.length ∧ ∀ (k : Nat) (i : Int), ns[k]? = some i → ∃ t, vs[k]? = some (.int i t)
 len : ns.length ≤ 1000
theorem Scr.base {a : Addr} {ns : List Int} {φ : Mp} {h : Heap} (c : Scr Γ.h₀ a ns) (S : St Γ.w Γ.h₀ φ H h) : ∃ vs : List Value, h.IsList a vs.toArray ∧ vs.length = ns.length ∧ ∀ (k : Nat) (i : Int), ns[k]? = some i → ∃ t, vs[k]? = some (.int i t) := by
 obtain ⟨vs, ⟨o, e, r⟩, q⟩ := c.at_
 exact ⟨vs, ⟨o, S.base _ _ e, r⟩, q⟩
theorem aLs {a : Addr} {ns : List Int} {Q : AV → AH → Prop} (c : Scr Γ.h₀ a ns) (h : Q (.int ns.length) H) : Cl Γ d (.builtin "len") [.glob (.ref a)] H Q := Cl.mk fun A s φ xs R S r => by
 refine hZ fun GZ kZ => ?_
 obtain ⟨_, rfl, r1⟩ := r.one
 cases r1
 obtain ⟨vs, hl, hn, _⟩ := c.base S
 have := c.len
 refine kZ ?_
 refine PyProof.Rows.len_list (items := vs.toArray) hl (by rw [List.size_toArray]; exact zi [ns.length, vs.length] [] (.h 1 (.u 1) (.u 0) (.h 1 (.u 0) (.n 1000) .e)) (.a (.u 1) (.n 1)) (.n (2^63)) rfl (zcl (Nat.le_of_eq hn)) (zcl this)) ?_
 rw [List.size_toArray, hn]
 exact aAe h (.int _ _) S
theorem aW5 {a : Addr} {ns : List Int} {k i : Int} {n : Nat} {Q : AV → AH → Prop} (c : Scr Γ.h₀ a ns) (hk : k = n) (hx : ns[n]? = some i) (h : Q (.int i) H) : Sb Γ d (.glob (.ref a)) (.int k) H Q := Sb.mk fun A s φ x y R S r1 r2 => by
 cases r1; cases r2
 obtain ⟨vs, hl, hn, hv⟩ := c.base S
 obtain ⟨t, ht⟩ := hv n i hx
 have := c.len
 have := (List.getElem?_eq_some_iff.mp hx).1
 subst hk
 exact ⟨⟨"list", _, hl.typeIs, slot_list_getitem.lookup⟩, wpAny_getItem_list hl (by omega) (by exact oz305 ‹_› this) (by rw [Int.toNat_natCast]; simpa using ht) (aAu h (.int _ _) S)⟩
end
end
section
set_option maxRecDepth 400000
noncomputable section
section
variable {Γ : Cx} {d : Nat} {H : AH} {X : AH} {β : BS} {ν : Nat} {Q : AV → AH → Prop}
theorem aA4 {d' : Nat} {f : Value} {args : List AV} (h : Cd Γ d' f args H Q) (hd : Nat.ble d' d = true) : Cl Γ d f args H Q := (h.less (Nat.le_of_ble_eq_true hd)).cl
theorem aJu {x : Str} (h : Q (.bool ([AV.str "\t", .str "\n", .str "\x0c", .str "\r", .str " "].any (isStr x))) H) : Cd Γ 1 (.ref 28) [.str x] H Q := by
 refine aUz fun P => ?_
 nofun
 exact aA3 h
theorem aMd {x : Str} (h : Q (.bool ([AV.str "table", .str "tbody", .str "tfoot", .str "thead", .str "tr"].any (isStr x))) H) : Cd Γ 1 (.ref 56) [.str x] H Q := by
 refine aV3 fun P => ?_
 nofun
 exact aA3 h
theorem aMc {i : Int} {n : Node} {x : Str} (hn : Nd β i n) (h : Q (.bool (decide (n.space = oS "html") && decide (n.name = x))) (BH X β ν)) : Cd Γ 1 (.ref 631) [.ref .tree, .int i, .str x] (BH X β ν) Q := by
 refine aS6 fun P => ?_
 have h1 : i ≠ -1 := by have := hn.lo; exact oz0 this
 nofun
 ·rename_i hb; rw [hb] at h; exact aA3 h
 ·rename_i hb; rw [hb] at h; rw [hb]; exact aA3 h
theorem aUh {i : Int} {n : Node} (hn : Nd β i n) (hz : n.kids.length ≤ 100000) (h : Q (.int (n.kids.getLast?.getD (-1))) (BH X β ν)) : Cd Γ 1 (.ref 617) [.ref .tree, .int i] (BH X β ν) Q := by
 refine aS4 fun P => ?_
 cases hk : n.kids.getLast? with
 | none =>
  have e : n.kids = [] := List.getLast?_eq_none_iff.mp hk
  rw [hk] at h
  have e2 : n.kids.isEmpty = true := by rw [e]; rfl
  nofun
  exact aA3 h
 | some v =>
  rw [hk] at h
  have e2 : n.kids.isEmpty = false := by cases e : n.kids with | nil => rwa [e] at hk | cons _ _ => rfl
  nofun
  exact aA3 h
theorem aGu {i : Int} {n : Node} {j : Nat} {m : Node} (hn : Nd β i n) (hp : n.parent ≠ -1) (hm : Nd β n.parent m) (hj : m.kids[j]? = some i) (hno : ∀ k, k < j → m.kids[k]? ≠ some i) (hz : m.kids.length ≤ 1000000) (h : Q (.int j) (BH X β ν)) : Cd Γ 1 (.ref 610) [.ref .tree, .int i] (BH X β ν) Q := by
 refine aS3 fun P => ?_
 nofun
 refine aD0 hm hj hno hz ?_
 nofun
 exact aA3 h
theorem aUk {k : Int} (hz : β.items.length ≤ 1000000) (h : Q .none (BH X { β with items := β.items ++ [k] } ν)) : Cd Γ 1 (.ref 159) [.ref .stack, .int k] (BH X β ν) Q := by
 refine aR9 fun P => ?_
 nofun
 exact aA1 h
theorem aWo {k : Int} (hv : β.items.getLast? = some k) (hz : β.items.length ≤ 1000000) (h : Q (.int k) (BH X { β with items := β.items.dropLast } ν)) : Cd Γ 1 (.ref 166) [.ref .stack] (BH X β ν) Q := by
 have h0 : ¬ ((β.items.length : Int) = 0) := by
  intro e
  have : β.items = [] := List.eq_nil_of_length_eq_zero (by omega)
  rwa [this] at hv
 refine aRa fun P => ?_
 nofun
 exact aA3 h
theorem aMa {k : Int} (hv : β.items.getLast? = some k) (hz : β.items.length ≤ 1000000) (h : Q (.int k) (BH X β ν)) : Cd Γ 1 (.ref 173) [.ref .stack] (BH X β ν) Q := by
 have h1 : β.items.length ≠ 0 := by
  intro e
  have : β.items = [] := List.eq_nil_of_length_eq_zero (by omega)
  rwa [this] at hv
 have h0 : ¬ ((β.items.length : Int) = 0) := by exact fun e => (h1 (Nat.le_antisymm (zco (zi [β.items.length] [] (.h 1 (.u 0) (.n 0) .e) (.u 0) (.n 0) rfl (Int.le_of_eq e))) (zn [β.items.length] .e (.n 0) (.v 0) rfl)))
 have h2 : β.items[((β.items.length : Int) - 1).toNat]? = some k := by
  rw [List.getLast?_eq_getElem?] at hv
  rw [← hv]; congr 1; omega
 refine aRb fun P => ?_
 nofun
 exact aA3 h
theorem aUi (hz : β.items.length ≤ 1000000) (h : Q (.int β.items.length) (BH X β ν)) : Cd Γ 1 (.ref 180) [.ref .stack] (BH X β ν) Q := by
 refine aRc fun P => ?_
 nofun
 exact aA3 h
theorem aL2 {x : Str} (hz : β.errors.length ≤ 1000000) (h : Q .none (BH X { β with errors := β.errors ++ [(x, β.mode)] } ν)) : Cd Γ 1 (.ref 667) [.ref .bld, .str x] (BH X β ν) Q := by
 refine aS9 fun P => ?_
 nofun
 exact aA1 h
theorem aZo {x : Str} (h : Q .none (BH X { β with mode := x } ν)) : Cd Γ 1 (.ref 674) [.ref .bld, .str x] (BH X β ν) Q := by
 refine aSa fun P => ?_
 nofun
 exact aA1 h
section
variable {fc : FC} {ρ : Loc}
theorem aNb {l r1 r2 : Expr} {o1 o2 : CmpOp} {p : Pos} (h : Ev Γ fc d l ρ H (fun a H1 => Ev Γ fc d r1 ρ H1 (fun b H2 => CmQ Γ d o1 a b H2 (fun c => (c = true → Ev Γ fc d r2 ρ H2 (fun e H3 => CmQ Γ d o2 b e H3 (fun c' => Q (.bool c') H3))) ∧ (c = false → Q (.bool false) H2)))))
  (hm : lastMarks [o1, o2] [r1, r2] = false := by with_unfolding_all rfl) : Ev Γ fc d (.Compare l [o1, o2] [r1, r2] p) ρ H Q := Ev.mk fun A s φ L m R hk x => by
 refine Compare_chain (aAa (α := Unit) (E := noE) h R hk x fun a H1 φ1 y1 s1 q1 ra g1 x1 => ?_) hm
 refine chain_link (aAa (α := Unit) (E := noE) q1 R hk x1 fun b H2 φ2 y2 s2 ⟨c, hc, q2⟩ rb g2 x2 => ?_)
 refine hc.go A s2 φ2 y1 y2 _ R x2.st (ra.go x1.st g2) rb fun s3 g3 S3 => wpAny_truthy_bool ?_
 cases c with
 | false => rw [if_neg (by decide)]; exact ⟨.bool false, H2, φ2, q2.2 rfl, .bool _, (g1.trans g2).trans g3, S3⟩
 | true =>
  rw [if_pos rfl]
  refine chain_last (aAa (α := Unit) (E := noE) (q2.1 rfl) R hk (x2.go g3 S3) fun e H3 φ3 y3 s4 ⟨c', hc', q3⟩ re g4 x4 => ?_)
  exact hc'.go A s4 φ3 y2 y3 _ R x4.st ((rb.go x2.st g3).go S3 g4) re fun s5 g5 S5 => ⟨.bool c', H3, φ3, q3, .bool _, (((g1.trans g2).trans g3).trans g4).trans g5, S5⟩
theorem aLw {x y : Str} {C : Bool → Prop} (h : C (!decide (y.cps.toList < x.cps.toList))) : CmQ Γ d .LtE (.str x) (.str y) H C := ⟨_, Cm.mk fun A s φ a b R rm S r1 r2 h => by
 cases r1; cases r2; exact P.le_str (h s Go.refl S), h⟩
end
theorem aKo {i : Id} {c c' : Cell} : upd (upd H i c) i c' = upd H i c' := by
 funext j; unfold upd; split <;> rfl
noncomputable def lowN (c : Nat) : Nat := if 65 ≤ c ∧ c ≤ 90 then c + 32 else c
theorem aJv {c : Nat} (h : Q (.bool (decide (65 ≤ c ∧ c ≤ 90))) H) : Cd Γ 1 (.ref 35) [.str ⟨#[c]⟩] H Q := by
 refine aV0 fun P => ?_
 have ea : (oS "A").cps.toList = [65] := by decide +kernel
 have ez : (oS "Z").cps.toList = [90] := by decide +kernel
 have l1 : ∀ a b : Nat, ([a] < [b]) = (a < b) := fun a b => by simp [List.cons_lt_cons_iff]
 by_cases h1 : 65 ≤ c
 ·have e1 : (!decide ((⟨#[c]⟩ : Str).cps.toList < (oS "A").cps.toList)) = true := by rw [ea]; simp [List.cons_lt_cons_iff]; omega
  nofun
  have : (!decide ((oS "Z").cps.toList < (⟨#[c]⟩ : Str).cps.toList)) = decide (65 ≤ c ∧ c ≤ 90) := by
   rw [ez]; simp [h1, List.cons_lt_cons_iff]
   by_cases q : c ≤ 90 <;> simp [q] <;> (first | exact oz36 q | omega)
  rw [this]; exact aA3 h
 ·have e1 : (!decide ((⟨#[c]⟩ : Str).cps.toList < (oS "A").cps.toList)) = false := by rw [ea]; simp [List.cons_lt_cons_iff]; exact zn [c] (.h 1 (.a (.v 0) (.n 1)) (.n 65) .e) (.a (.v 0) (.n 1)) (.n 65) rfl (zNl h1)
  nofun
  have : decide (65 ≤ c ∧ c ≤ 90) = false := by simp; exact fun e => (zn [c] (.h 26 (.a (.v 0) (.n 1)) (.n 65) (.h 27 (.n 65) (.v 0) .e)) (.a (.n 90) (.n 1)) (.v 0) rfl (zNl h1) e)
  rw [this] at h; exact aA3 h
theorem aQe {c : Nat} (hc : c ≤ 900) (h : Q (.str ⟨#[lowN c]⟩) H) : Cd Γ 2 (.ref 42) [.str ⟨#[c]⟩] H Q := by
 refine aV1 fun P => ?_
 by_cases h1 : 65 ≤ c ∧ c ≤ 90
 ·have e1 : decide (65 ≤ c ∧ c ≤ 90) = true := decide_eq_true h1
  rw [lowN, if_pos h1] at h
  nofun
  refine aVn (c := c + 32) (by omega) (by omega) ?_
  nofun
  exact aA3 h
 ·have e1 : decide (65 ≤ c ∧ c ≤ 90) = false := decide_eq_false h1
  rw [lowN, if_neg h1] at h
  nofun
  exact aA3 h
theorem aLm {α : Type} : ∀ l : List α, (l.map fun _ => 1).sum = l.length
 | [] => rfl
 | _ :: l => by simp [aLm l]; exact Nat.le_antisymm (zn [l.length] .e (.a (.n 1) (.v 0)) (.a (.v 0) (.n 1)) rfl) (zn [l.length] .e (.a (.v 0) (.n 1)) (.a (.n 1) (.v 0)) rfl)
noncomputable def lowL (x : Str) : List Str := x.cps.toList.map fun c => ⟨#[lowN c]⟩
noncomputable def lowT (x : Str) : Str := Txt.join (oS "") (lowL x)
theorem aD3 {x : Str} (hx : x.cps.toList.all (fun c => decide (c ≤ 127)) = true) (hz : x.cps.toList.length ≤ 1000) (h : Q (.str (lowT x)) (BH X β (ν + 1))) : Cd Γ 3 (.ref 49) [.str x] (BH X β ν) Q := by
 refine aV2 fun P => ?_
 refine aAw (aA6 (.tm ν) ?_)
 refine aA7 ⟨rfl, aKq, ?_⟩
 nofun
 refine aAt (fun k ρ H => ∃ u, ρ = [(oS "text", some (.str x)), (oS "out", some (.ref (.tm ν))), (oS "c", u)] ∧ H = upd (BH X β ν) (.tm ν) (.live (.lst (strL ((lowL x).take k))))) ?_
 refine aW2 ?_
 refine aB8 (by wtm_at "m.get") ⟨x, rfl, ⟨none, rfl, rfl⟩, fun _ _ _ _ => trivial, ?_, ?_⟩
 ·rintro k _ _ u ⟨w, rfl, rfl⟩ hu
  rw [List.getElem?_map] at hu
  obtain ⟨c, hc, rfl⟩ := Option.map_eq_some_iff.mp hu
  have hc9 : c ≤ 127 := of_decide_eq_true (List.all_eq_true.mp hx c (List.mem_of_getElem? hc))
  refine ⟨_, aAv (by wtm_at "m.put"), ?_⟩
  refine aD1 (aEa (aB8 (by wtm_at "m.get") (aBa PySem.F.plainAttrs_list PySem.F.slot_list_append PySem.F.type_list_append (i := .tm ν) aA2 rfl ?_)))
  nofun
  refine aA4 (aQe (by omega) ?_) rfl
  nofun
  refine aA5 aA2 (by simp [strL, lowL] at hz ⊢; omega) ?_
  nofun
  refine aAd ⟨_, rfl, ?_⟩
  rw [aKo]
  congr 3
  have hk := (List.getElem?_eq_some_iff.mp hc)
  rw [show k + 1 = k + 1 from rfl, List.take_add_one]
  have : (lowL x)[k]? = some ⟨#[lowN c]⟩ := by rw [lowL, List.getElem?_map, hc]; rfl
  rw [this]; simp [strL]
 ·rintro _ _ ⟨w, rfl, rfl⟩
  have e : ((lowL x).take (x.cps.toList.map fun c => AV.str ⟨#[c]⟩).length) = lowL x := List.take_of_length_le (by simp [lowL])
  rw [e]
  refine aEb (aEa (aHu (aNk PySem.F.plainAttrs_str PySem.F.slot_str_join PySem.F.type_str_join ?_)))
  nofun
  refine aTl aA2 (by decide +kernel) ?_ ?_
  ·have : ((lowL x).map (·.length)).sum = x.cps.toList.length := by
    have : (lowL x).map (·.length) = (x.cps.toList.map fun _ => 1) := by rw [lowL, List.map_map]; rfl
    rw [this, aLm]
   rw [this]; simp [lowL] at *; exact zn [x.cps.size] (.h 2 (.v 0) (.n 1000) .e) (.a (.v 0) (.v 0)) (.n 100000) rfl hz
  ·exact aHv aPd h
theorem aGx {i : Int} {n : Node} {x : Str} (hn : Nd β i n) (hx : ∀ p ∈ n.attrs, p.1 ≠ x) (h : Q .none (BH X β ν)) : Cd Γ 1 (.ref 624) [.ref .tree, .int i, .str x] (BH X β ν) Q := by
 refine aS5 fun P => ?_
 refine aAt (fun k ρ H => ∃ u, ρ = [(oS "self", some (.ref .tree)), (oS "node", some (.int i)), (oS "name", some (.str x)), (oS "pair", u)] ∧ H = BH X β ν) ?_
 refine aBf ?_
 nofun
 refine ⟨_, _, rfl, aLq hn.at_, ⟨none, rfl, rfl⟩, ?_, ?_, ?_⟩
 ·rintro k _ _ ⟨w, rfl, rfl⟩; exact aLq hn.at_
 ·rintro k _ _ u ⟨w, rfl, rfl⟩ hu
  rw [pairL, List.getElem?_map] at hu
  obtain ⟨p, hp, rfl⟩ := Option.map_eq_some_iff.mp hu
  have h2 := hx p (List.mem_of_getElem? hp)
  refine ⟨_, aAv (by wtm_at "m.put"), ?_⟩
  unfold pairA
  nofun
  exact aAd ⟨_, rfl, rfl⟩
 ·rintro _ _ ⟨w, rfl, rfl⟩
  nofun
  exact aA3 h
theorem aO8 {i : Int} {n : Node} (hn : Nd β i n) (hp : n.parent = -1) (h : Q .none (BH X β ν)) : Cd Γ 1 (.ref 596) [.ref .tree, .int i] (BH X β ν) Q := by
 refine aS2 fun P => ?_
 nofun
 exact aA1 h
structure WFp (β : BS) : Prop where
 desc : ∀ i n, Nd β i n → n.parent = -1 ∨ (0 ≤ n.parent ∧ n.parent < i)
 sz : β.nodes.length ≤ 100000
theorem WFp.up {i : Int} {n : Node} (w : WFp β) (hn : Nd β i n) : n.parent = -1 ∨ (0 ≤ n.parent ∧ n.parent < i ∧ ∃ m, Nd β n.parent m) := by
 rcases w.desc i n hn with h | ⟨h1, h2⟩
 ·exact .inl h
 ·refine .inr ⟨h1, h2, ?_⟩
  have := hn.lt; have := hn.lo; have := hn.hi
  have hl : n.parent.toNat < β.nodes.length := by exact oz85 h1 h2 ‹_› ‹_›
  exact ⟨β.nodes[n.parent.toNat], h1, by exact zi [] [i, n.parent] (.h 1 (.a (.w 1) (.n 1)) (.w 0) (.h 1 (.a (.w 0) (.n 1)) (.n 1000000) .e)) (.a (.w 1) (.n 1)) (.n 1000000) rfl h2 this, List.getElem?_eq_getElem hl⟩
theorem aEc {i : Int} {n : Node} (hi : H .parents = .live (.lst (parentsL β.nodes))) (hn : Nd β i n) (h : Q (.int n.parent) H) : Sb Γ d (.ref .parents) (.int i) H Q := aBm hi hn.lo hn.hi (by rw [parentsL, List.getElem?_map, hn.at_]; rfl) h
theorem aQ8 {i : Int} {n : Node} (w : WFp β) (hn : Nd β i n) (h : ∀ l : List Int, (∀ x ∈ l, x < i) → Q (.ref (.tm ν)) (upd (BH X β ν) (.tm ν) (.live (.lst (intL l))))) : Cd Γ 1 (.ref 645) [.ref .tree, .int i] (BH X β ν) Q := by
 refine aS7 fun P => ?_
 refine aAw (aA6 (.tm ν) ?_)
 refine aA7 ⟨rfl, aKq, ?_⟩
 repeat' wtm_at "m.xp"
 refine aAw ?_
 repeat' wtm_at "m.xp"
 refine aEc rfl hn ?_
 repeat' wtm_at "m.xp"
 have hi9 := hn.lt
 have w9 := w.sz
 refine aC6 (fun k ρ H => ∃ (l : List Int) (up : Int), ρ = [(oS "tree", some (.ref .tree)), (oS "node", some (.int i)), (oS "out", some (.ref (.tm ν))), (oS "up", some (.int up))] ∧ H = upd (BH X β ν) (.tm ν) (.live (.lst (intL l))) ∧
  (∀ x ∈ l, x < i) ∧ (l.length : Int) + up + 1 ≤ i ∧ k = (up + 1).toNat ∧ (up = -1 ∨ (0 ≤ up ∧ ∃ m, Nd β up m))) _ ⟨[], n.parent, rfl, rfl, by simp, ?_, rfl, ?_⟩ ?_
 ·have := hn.lo
  rcases w.desc i n hn with q | q
  ·rw [q]; simp; omega
  ·simp; exact zi [] [n.parent, i] (.h 1 (.a (.w 0) (.n 1)) (.w 1) .e) (.a (.w 0) (.n 1)) (.w 1) rfl q.2
 ·rcases w.up hn with q | ⟨q1, _, q3⟩
  ·exact .inl q
  ·exact .inr ⟨q1, q3⟩
 ·rintro k _ _ ⟨l, up, rfl, rfl, hl, hz, rfl, hup⟩
  rcases hup with rfl | ⟨h0, m, hm⟩
  ·repeat' wtm_at "m.xp"
   refine aEb ?_
   repeat' wtm_at "m.xp"
   exact aA3 (h l hl)
  ·have h1 : ¬ up = -1 := by exact oz88 h0
   have hm9 := hm.lt
   repeat' wtm_at "m.xp"
   refine aD1 (aEa (aB8 (by wtm_at "m.get") (aBa PySem.F.plainAttrs_list PySem.F.slot_list_append PySem.F.type_list_append (i := .tm ν) aA2 rfl ?_)))
   repeat' wtm_at "m.xp"
   refine aA5 aA2 (by rw [intL, List.length_map]; exact oz89 hi9 w9 hz h0) ?_
   repeat' wtm_at "m.xp"
   refine aAw ?_
   repeat' wtm_at "m.xp"
   refine aEc rfl hm ?_
   repeat' wtm_at "m.xp"
   refine aAg (aAd ⟨(m.parent + 1).toNat, ?_, l ++ [up], m.parent, rfl, ?_, ?_, ?_, rfl, ?_⟩)
   ·rcases w.desc up m hm with q | q <;> (first | exact oz91 h0 q | exact oz92 h0 q | omega)
   ·rw [aKo]; simp [intL]
   ·intro x hx
    rw [List.mem_append, List.mem_singleton] at hx
    rcases hx with hx | rfl
    ·exact hl x hx
    ·exact zi [l.length] [x, i] (.h 1 (.a (.a (.u 0) (.w 0)) (.n 1)) (.w 1) .e) (.a (.w 0) (.n 1)) (.w 1) rfl hz
   ·simp only [List.length_append, List.length_cons, List.length_nil]
    rcases w.desc up m hm with q | q <;> (first | exact oz94 hz h0 q | exact oz95 hz q | omega)
   ·rcases w.up hm with q | ⟨q1, _, q3⟩
    ·exact .inl q
    ·exact .inr ⟨q1, q3⟩
theorem aF6 {i x : Int} {n : Node} {C : Bool → Prop} (hn : Nd β i n) (h : C (!n.kids.any fun y => decide (y = x))) : CmQ Γ d .NotIn (.int x) (.ref (.kd i.toNat)) (BH X β ν) C := ⟨_, aHt (aE4 hn.at_) aCw, by rw [aL1]; exact h⟩
structure Plc (β : BS) (p bf : Int) (np : Node) (j : Nat) : Prop where
 nd : Nd β p np
 ok : (bf = -1 ∧ j = np.kids.length) ∨ (0 ≤ bf ∧ np.kids[j]? = some bf ∧ ∀ k, k < j → np.kids[k]? ≠ some bf)
 sz : np.kids.length ≤ 100000
theorem Plc.le {p bf : Int} {np : Node} {j : Nat} (h : Plc β p bf np j) : j ≤ np.kids.length := by
 rcases h.ok with ⟨_, h⟩ | ⟨_, h, _⟩
 ·exact zn [j, np.kids.length] (.h 1 (.v 0) (.v 1) .e) (.v 0) (.v 1) rfl (Nat.le_of_eq h)
 ·have := (List.getElem?_eq_some_iff.mp h).1; omega
noncomputable def putK (l : List Int) (j : Nat) (x : Int) : List Int := l.take j ++ x :: l.drop j
noncomputable def insAt (β : BS) (p : Int) (np : Node) (j : Nat) (nd : Int) (nn : Node) : BS := setN (setN β p.toNat { np with kids := putK np.kids j nd }) nd.toNat { nn with parent := p }
theorem Nd.setN_ne {i k : Int} {n m m' : Node} (hi : Nd β i n) (hk : Nd β k m) (ne : i ≠ k) : Nd (setN β k.toNat m') i n :=
 ⟨hi.lo, hi.hi, by
  have := hi.lo; have := hk.lo
  rw [setN, aAz hk.at_, if_neg (by exact oz179 ne ‹_› this)]; exact hi.at_⟩
theorem aIi {p bf nd : Int} {np nn : Node} {j : Nat} (w : WFp β) (hp : Plc β p bf np j) (hn : Nd β nd nn) (h1 : nn.parent = -1) (hlt : p < nd) (hbf : bf ≠ nd) (h : ∀ ν', Q .none (BH X (insAt β p np j nd nn) ν')) (P : Plain fc_582) :
  Exs Γ fc_582 1 (bodyS (mtAt 54 6)) [(oS "self", some (.ref .tree)), (oS "parent", some (.int p)), (oS "node", some (.int nd)), (oS "before", some (.int bf)), (oS "at", none)] (BH X β ν) (RetQ Q) := by
 have hpn := hp.nd
 have hsz := hp.sz
 have w9 := w.sz
 have p0 := hpn.lo
 have e1 : ¬ nd = p := by exact fun e => (zff (zco (zi [] [nd, p] (.h 1 (.a (.w 1) (.n 1)) (.w 0) (.h 1 (.w 0) (.w 1) .e)) (.n 1) (.n 0) rfl hlt (Int.le_of_eq e))))
 refine aNj (aNu (aT4 ?_))
 repeat' wtm_at "m.xp"
 refine aA4 (aQ8 w hpn fun l hl => ?_) rfl
 refine aJb aA2 ?_
 have e2 : (l.any fun y => decide (y = nd)) = false := by
  rw [List.any_eq_false]; intro x hx; have := hl x hx; simp; exact fun e => (zff (zco (zi [] [nd, x, p] (.h 1 (.a (.w 2) (.n 1)) (.w 0) (.h 1 (.a (.w 1) (.n 1)) (.w 2) (.h 1 (.w 0) (.w 1) .e))) (.n 1) (.n 0) rfl hlt this (Int.le_of_eq e.symm))))
 repeat' wtm_at "m.xp"
 refine aAg (aA9 (aKv aPd ?_))
 have fin : ∀ (k : Int) (Q' : AV → AH → Prop), k = j → Q' .none (BH X (setN β p.toNat { np with kids := putK np.kids j nd }) (ν + 1)) → Cl Γ 1 (.builtin "list.insert") [.ref (.kd p.toNat), .int k, .int nd] (BH X β (ν + 1)) Q' := by
  rintro _ Q' rfl hq
  exact aF4 hpn (by omega) (by have := hp.le; exact zco (zi [(Int.toNat (↑j : Int)), j, np.kids.length] [] (.h 1 (.u 1) (.u 2) (.h 1 (.u 0) (.u 1) .e)) (.u 0) (.u 2) rfl (zcl this) (Int.le_of_eq (Int.toNat_of_nonneg (zi [j] [] .e (.n 0) (.u 0) rfl))))) (by omega) hq
 have hn2 : Nd (setN β p.toNat { np with kids := putK np.kids j nd }) nd nn := hn.setN_ne hpn (by omega)
 rcases hp.ok with ⟨rfl, rfl⟩ | ⟨b0, hj, hno⟩
 ·have e3 : ¬ (-1 : Int) = nd := by have := hn.lo; omega
  nofun
  refine fin _ _ rfl ?_
  nofun
  refine aFo hn2 (by simp [setN]; omega) ?_
  nofun
  exact aA1 (h _)
 ·have e3 : ¬ bf = -1 := by exact oz88 b0
  have e4 : (np.kids.any fun y => decide (y = bf)) = true := List.any_eq_true.mpr ⟨bf, List.mem_of_getElem? hj, by simp⟩
  nofun
  refine aD0 hpn hj hno (by omega) ?_
  nofun
  refine fin _ _ rfl ?_
  nofun
  refine aFo hn2 (by simp [setN]; omega) ?_
  nofun
  exact aA1 (h _)
theorem aO4 {p bf nd : Int} {np nn : Node} {j : Nat} (w : WFp β) (hp : Plc β p bf np j) (hn : Nd β nd nn) (h1 : nn.parent = -1) (hlt : p < nd) (hbf : bf ≠ nd) (h : ∀ ν', Q .none (BH X (insAt β p np j nd nn) ν')) :
  Cd Γ 2 (.ref 582) [.ref .tree, .int p, .int nd, .int bf] (BH X β ν) Q := aS0 (aIi w hp hn h1 hlt hbf h)
theorem aO1 {p nd : Int} {np nn : Node} {j : Nat} (w : WFp β) (hp : Plc β p (-1) np j) (hn : Nd β nd nn) (h1 : nn.parent = -1) (hlt : p < nd) (h : ∀ ν', Q .none (BH X (insAt β p np j nd nn) ν')) :
  Cd Γ 3 (.ref 589) [.ref .tree, .int p, .int nd] (BH X β ν) Q := by
 refine aS1 fun P => ?_
 nofun
 refine aA4 (aRz (aIi w hp hn h1 hlt (by have := hn.lo; exact fun e => (zff (zco (zi [] [nd] (.h 1 (.n 0) (.w 0) (.h 1 (.w 0) (.g (.n 1)) .e)) (.n 1) (.n 0) rfl this (Int.le_of_eq e.symm))))) fun ν' => ?_)) rfl
 nofun
 exact aA1 (h _)
theorem aJ1 {f : Nat → Id} {n : Nat} : refK f n ++ [.ref (f n)] = refK f (n + 1) := by simp [refK, List.range_succ]
theorem aQs {kd sp nm tx : Str} {at_ : List (Str × Str)} :
  upd (upd (upd (upd (upd (upd (upd (upd (upd (BH X β ν) .kinds (.live (.lst (kindsL β.nodes ++ [.str kd])))) .spaces (.live (.lst (spacesL β.nodes ++ [.str sp])))) .names (.live (.lst (namesL β.nodes ++ [.str nm]))))
   (.at β.nodes.length) (.live (.lst (pairL at_)))) .attrs (.live (.lst (refK .at β.nodes.length ++ [.ref (.at β.nodes.length)])))) .texts (.live (.lst (textsL β.nodes ++ [.str tx])))) .parents (.live (.lst (parentsL β.nodes ++ [.int (-1)]))))
   (.kd β.nodes.length) (.live (.lst []))) .children (.live (.lst (refK .kd β.nodes.length ++ [.ref (.kd β.nodes.length)]))) = BH X (addN β ⟨kd, sp, nm, at_, tx, -1, []⟩) ν := by
 funext j
 cases j <;> first | rfl | skip
 ·simp [upd, BH, addN, kindsL]
 ·simp [upd, BH, addN, spacesL]
 ·simp [upd, BH, addN, namesL]
 ·simp only [upd, BH, addN, aJ1]; simp
 ·simp [upd, BH, addN, textsL]
 ·simp [upd, BH, addN, parentsL]
 ·simp only [upd, BH, addN, aJ1]; simp
 ·rename_i k
  by_cases q : k = β.nodes.length
  ·subst q; simp [upd, BH, addN, intL]
  ·have : (β.nodes ++ [(⟨kd, sp, nm, at_, tx, -1, []⟩ : Node)])[k]? = β.nodes[k]? := by
    rw [List.getElem?_append]
    split
    ·rfl
    ·rw [List.getElem?_eq_none (l := β.nodes) (by exact oz46 ‹_›), List.getElem?_eq_none (by simp; omega)]
   simp only [upd, BH, addN, this]
   simp [q]
 ·rename_i k
  by_cases q : k = β.nodes.length
  ·subst q; simp [upd, BH, addN, pairL]
  ·have : (β.nodes ++ [(⟨kd, sp, nm, at_, tx, -1, []⟩ : Node)])[k]? = β.nodes[k]? := by
    rw [List.getElem?_append]
    split
    ·rfl
    ·rw [List.getElem?_eq_none (l := β.nodes) (by exact oz46 ‹_›), List.getElem?_eq_none (by simp; omega)]
   simp only [upd, BH, addN, this]
   simp [q]
theorem aOg {kd sp nm tx : Str} {at_ : List (Str × Str)} (hz : β.nodes.length ≤ 100000) (ha : at_.length ≤ 100000) (h : Q (.int β.nodes.length) (BH X (addN β ⟨kd, sp, nm, at_, tx, -1, []⟩) ν)) (P : Plain fc_544) :
  Exs Γ fc_544 0 (bodyS (mtAt 54 1)) [(oS "self", some (.ref .tree)), (oS "kind", some (.str kd)), (oS "space", some (.str sp)), (oS "name", some (.str nm)), (oS "attrs", some (.tup (pairL at_))), (oS "text", some (.str tx))] (BH X β ν) (RetQ Q) := by
 have z : ∀ {l : List AV}, l.length = β.nodes.length → l.length ≤ 1000000 := fun e => by exact oz184 hz e
 nofun
 refine aA5 (l := kindsL β.nodes) rfl (z (by simp [kindsL])) ?_
 nofun
 refine aA5 (l := spacesL β.nodes) rfl (z (by simp [spacesL])) ?_
 nofun
 refine aA5 (l := namesL β.nodes) rfl (z (by simp [namesL])) ?_
 nofun
 refine aFj (.at β.nodes.length) (by simp only [upd, reduceCtorEq, ↓reduceIte]; exact aVc) (by simp [pairL]; omega) ?_
 nofun
 refine aA5 (l := refK .at β.nodes.length) rfl (z (by simp [refK])) ?_
 nofun
 refine aA5 (l := textsL β.nodes) rfl (z (by simp [textsL])) ?_
 nofun
 refine aA5 (l := parentsL β.nodes) rfl (z (by simp [parentsL])) ?_
 nofun
 refine aA6 (.kd β.nodes.length) (aA7 ⟨rfl, by simp only [upd, reduceCtorEq, ↓reduceIte]; exact aVd, ?_⟩)
 nofun
 refine aA5 (l := refK .kd β.nodes.length) rfl (z (by simp [refK])) ?_
 rw [aQs]
 nofun
 refine aHo (l := kindsL (addN β ⟨kd, sp, nm, at_, tx, -1, []⟩).nodes) rfl (by simp [kindsL, addN]; omega) ?_
 nofun
 have e : ((kindsL (addN β ⟨kd, sp, nm, at_, tx, -1, []⟩).nodes).length : Int) - 1 = β.nodes.length := by simp [kindsL, addN]
 rw [e]
 exact aA3 h
theorem aU7 {kd : Str} (hz : β.nodes.length ≤ 100000) (h : Q (.int β.nodes.length) (BH X (addN β ⟨kd, oS "", oS "", [], oS "", -1, []⟩) ν)) : Cd Γ 1 (.ref 544) [.ref .tree, .str kd] (BH X β ν) Q :=
 aLd (aOg (at_ := []) hz (by simp) h)
theorem aU8 {kd sp nm : Str} {at_ : List (Str × Str)} (hz : β.nodes.length ≤ 100000) (ha : at_.length ≤ 100000) (h : Q (.int β.nodes.length) (BH X (addN β ⟨kd, sp, nm, at_, oS "", -1, []⟩) ν)) : Cd Γ 1 (.ref 544) [.ref .tree, .str kd, .str sp, .str nm, .tup (pairL at_)] (BH X β ν) Q :=
 aRv (aOg hz ha h)
theorem aU9 {kd sp nm tx : Str} (hz : β.nodes.length ≤ 100000) (h : Q (.int β.nodes.length) (BH X (addN β ⟨kd, sp, nm, [], tx, -1, []⟩) ν)) : Cd Γ 1 (.ref 544) [.ref .tree, .str kd, .str sp, .str nm, .tup [], .str tx] (BH X β ν) Q :=
 aRw (aOg (at_ := []) hz (by simp) h)
noncomputable abbrev elmN (nm : Str) (at_ : List (Str × Str)) : Node := ⟨oS "element", oS "html", nm, at_, oS "", -1, []⟩
noncomputable abbrev txtN (tx : Str) : Node := ⟨oS "text", oS "", oS "", [], tx, -1, []⟩
noncomputable abbrev comN (tx : Str) : Node := ⟨oS "comment", oS "", oS "", [], tx, -1, []⟩
noncomputable abbrev fragN : Node := ⟨oS "fragment", oS "", oS "", [], oS "", -1, []⟩
theorem aUm {tx : Str} (hz : β.nodes.length ≤ 100000) (h : Q (.int β.nodes.length) (BH X (addN β (txtN tx)) ν)) : Cd Γ 2 (.ref 560) [.ref .tree, .str tx] (BH X β ν) Q := by
 refine aRx fun P => ?_
 nofun
 exact aA3 h
theorem aM9 {tx : Str} (hz : β.nodes.length ≤ 100000) (h : Q (.int β.nodes.length) (BH X (addN β (comN tx)) ν)) : Cd Γ 2 (.ref 567) [.ref .tree, .str tx] (BH X β ν) Q := by
 refine aRy fun P => ?_
 nofun
 exact aA3 h
theorem aMb {nm : Str} {at_ : List (Str × Str)} (hz : β.nodes.length ≤ 100000) (ha : at_.length ≤ 100000) (hn : nm ≠ oS "template") (h : Q (.int β.nodes.length) (BH X (addN β (elmN nm at_)) ν)) : Cd Γ 2 (.ref 553) [.ref .tree, .str nm, .str "html", .tup (pairL at_)] (BH X β ν) Q := by
 refine aLe fun P => ?_
 nofun
 exact aA3 h
noncomputable def tmplB (β : BS) (at_ : List (Str × Str)) (e : Nat) : BS :=
 { addN (addN β (elmN (oS "template") at_)) fragN with cont := β.cont ++ [((β.nodes.length : Int), (β.nodes.length : Int) + 1)], contE := e }
theorem aJz {at_ : List (Str × Str)} (hz : β.nodes.length < 100000) (ha : at_.length ≤ 100000) (hc : (β.nodes.length : Int) ∉ β.cont.map (·.1)) (hcz : β.cont.length ≤ 100000) (h : ∀ e, Q (.int β.nodes.length) (BH X (tmplB β at_ e) ν)) :
  Cd Γ 2 (.ref 553) [.ref .tree, .str "template", .str "html", .tup (pairL at_)] (BH X β ν) Q := by
 refine aLe fun P => ?_
 have z1 : (addN β (elmN (oS "template") at_)).nodes.length ≤ 100000 := by simp [addN]; exact zn [β.nodes.length] (.h 1 (.a (.v 0) (.n 1)) (.n 100000) .e) (.v 0) (.n 99999) rfl hz
 nofun
 have e : ((addN β (elmN (oS "template") at_)).nodes.length : Int) = (β.nodes.length : Int) + 1 := by simp [addN]
 refine aTz (β := addN (addN β (elmN (oS "template") at_)) fragN) hc (by show β.cont.length ≤ _; omega) fun ep => ?_
 nofun
 refine aA3 ?_
 rw [show ((addN β (⟨oS "element", oS "html", oS "template", at_, oS "", -1, []⟩ : Node)).nodes.length : Int) = (β.nodes.length : Int) + 1 from e]
 exact h ep
noncomputable def isPart (x : Str) : Bool := [AV.str "table", .str "tbody", .str "tfoot", .str "thead", .str "tr"].any (isStr x)
structure FosAt (β : BS) (t : Int) (nt : Node) (m : Nat) : Prop where
 nd : Nd β t nt
 at_ : β.items[m]? = some t
 pos : 0 < m
 sp : nt.space = oS "html"
 nm : nt.name = oS "table"
 par : nt.parent ≠ -1
 up : ∀ k v, m < k → β.items[k]? = some v → ∃ n, Nd β v n ∧ n.name ≠ oS "table" ∧ n.name ≠ oS "template"
 sz : β.items.length ≤ 100000
theorem aO3 {t : Int} {nt : Node} {m : Nat} (f : FosAt β t nt m) (h : Q (.tup [.int nt.parent, .int t]) (BH X β ν)) : Cd Γ 2 (.ref 77) [.ref .bld] (BH X β ν) Q := by
 have hm := (List.getElem?_eq_some_iff.mp f.at_).1
 have hsz := f.sz
 refine aV4 fun P => ?_
 iterate 11 wtm_at "m.go"
 nofun
 refine aC6 (fun k ρ H => ∃ at_ : Int, ρ = [(oS "builder", some (.ref .bld)), (oS "tree", some (.ref .tree)), (oS "items", some (.ref .items)), (oS "at", some (.int at_)), (oS "node", none)] ∧ H = BH X β ν ∧ at_ = m + k ∧ at_ < β.items.length) (β.items.length - 1 - m) ⟨_, rfl, rfl, by exact oz239 hm, by exact zi [β.items.length] [] .e (.a (.s (.u 0) (.n 1)) (.n 1)) (.u 0) rfl⟩ ?_
 rintro k _ _ ⟨at_, rfl, rfl, rfl, hlt⟩
 have hp := f.pos
 have h1 : (0 : Int) < (m : Int) + (k : Int) := by exact zi [m, k] [] (.h 1 (.c (.a (.n 0) (.n 1))) (.u 0) .e) (.a (.n 0) (.n 1)) (.a (.u 0) (.u 1)) rfl (zcl hp)
 have hnt := f.nd
 rcases Nat.eq_zero_or_pos k with rfl | hk
 ·have g1 : β.items[((m : Int) + ((0 : Nat) : Int)).toNat]? = some t := by rw [← f.at_]; congr 1
  have e1 : (decide (nt.space = oS "html") && decide (nt.name = oS "table")) = true := by rw [f.sp, f.nm]; simp
  have e2 := f.par
  nofun
  exact aA3 h
 ·obtain ⟨v, g1⟩ : ∃ v, β.items[((m : Int) + (k : Int)).toNat]? = some v := ⟨_, List.getElem?_eq_getElem (by exact zco (zi [(Int.toNat ((↑m : Int) + (↑k : Int))), m, k, β.items.length] [] (.h 1 (.a (.a (.u 1) (.u 2)) (.n 1)) (.u 3) (.h 1 (.u 0) (.a (.u 1) (.u 2)) .e)) (.c (.a (.v 0) (.n 1))) (.u 3) rfl hlt (Int.le_of_eq (Int.toNat_of_nonneg (zi [m, k] [] .e (.n 0) (.a (.u 0) (.u 1)) rfl)))))⟩
  obtain ⟨n, hn, n1, n2⟩ := f.up ((m : Int) + (k : Int)).toNat v (by exact zco (zi [m, k, (Int.toNat ((↑m : Int) + (↑k : Int)))] [] (.h 1 (.c (.a (.n 0) (.n 1))) (.u 1) (.h 1 (.a (.u 0) (.u 1)) (.u 2) .e)) (.c (.a (.v 0) (.n 1))) (.u 2) rfl (zcl hk) (Int.le_of_eq (Eq.symm (Int.toNat_of_nonneg (zi [m, k] [] .e (.n 0) (.a (.u 0) (.u 1)) rfl)))))) g1
  have e1 : (decide (n.space = oS "html") && decide (n.name = oS "table")) = false := by simp [n1]
  have e2 : (decide (n.space = oS "html") && decide (n.name = oS "template")) = false := by simp [n2]
  nofun
  refine ⟨_, rfl, ?_⟩
  nofun
  exact aAd ⟨k - 1, by exact zco (zi [(k - 1), k] [] (.h 1 (.u 0) (.s (.u 1) (.n 1)) .e) (.c (.a (.v 0) (.n 1))) (.u 1) rfl (Int.le_of_eq (Int.ofNat_sub (zn [k] (.h 1 (.a (.n 0) (.n 1)) (.v 0) .e) (.n 1) (.v 0) rfl hk)))), _, rfl, rfl, by exact oz248 hk, by exact zi [m, k, β.items.length] [] (.h 1 (.a (.a (.u 0) (.u 1)) (.n 1)) (.u 2) .e) (.a (.s (.a (.u 0) (.u 1)) (.n 1)) (.n 1)) (.u 2) rfl hlt⟩
inductive PlaceTo (β : BS) : Int → Int → Prop
 | here {k : Int} {nk : Node} : β.items.getLast? = some k → Nd β k nk → (β.foster = false ∨ isPart nk.name = false) → (β.cont.any fun p => decide (p.1 = k)) = false → β.items.length ≤ 100000 → PlaceTo β k (-1)
 | out {k t : Int} {nk nt : Node} {m : Nat} : β.items.getLast? = some k → Nd β k nk → β.foster = true → nk.space = oS "html" → isPart nk.name = true → FosAt β t nt m → (β.cont.any fun p => decide (p.1 = nt.parent)) = false → PlaceTo β nt.parent t
theorem aI7 {p bf : Int} (hp : PlaceTo β p bf) (h : Q (.tup [.int p, .int bf]) (BH X β ν)) : Cd Γ 3 (.ref 85) [.ref .bld] (BH X β ν) Q := by
 refine aV5 fun P => ?_
 cases hp with
 | @here _ nk hv hn hc hk hz =>
  have k0 : ¬ p = -1 := by have := hn.lo; exact oz88 this
  cases hf : β.foster with
  | false =>
   nofun
   exact aA3 h
  | true =>
   have hpart : isPart nk.name = false := by
    rcases hc with q | q
    ·rwa [hf] at q
    ·exact q
   unfold isPart at hpart
   by_cases hs : nk.space = oS "html"
   ·nofun
    exact aA3 h
   ·nofun
    exact aA3 h
 | @out k _ nk nt m hv hn hf hs hpart f hk =>
  have k0 : ¬ k = -1 := by have := hn.lo; exact oz88 this
  have hz := f.sz
  unfold isPart at hpart
  nofun
  refine ⟨_, aG9 (xs := [oS "here", oS "before"]) (Puts.cons (by wtm_at "m.put") (Puts.cons (by wtm_at "m.put") .nil)) (by intro _; rfl) (by intro _; rfl) (by intro env i x h; rcases i with _ | _ | i <;> first | (cases h; exact ⟨_, rfl⟩) | cases h), ?_⟩
  nofun
  exact aA3 h
theorem aVa {fc : FC} {ρ ρ1 ρ2 : Loc} {x y : Str} {a b : AV} {es : List Expr} {k : Nat} {p : Pos} {C : Loc → Prop} (h1 : Put x a ρ ρ1) (h2 : Put y b ρ1 ρ2) (hn : ∀ env, (assignEach es env).length = 2) (hs : ∀ env, (assignEach es env).findIdx? (·.1) = none)
  (hf : ∀ env, (∃ q, ((assignEach es env).map (·.2))[0]? = some (assign (.Name x q) env)) ∧ (∃ q, ((assignEach es env).map (·.2))[1]? = some (assign (.Name y q) env))) (h : C ρ2) : ∃ ρ', As Γ fc (.Tuple es k p) (.tup [a, b]) ρ ρ' ∧ C ρ' :=
 ⟨ρ2, aG9 (xs := [x, y]) (.cons h1 (.cons h2 .nil)) hn hs (fun env i z hz => by
  rcases i with _ | _ | i
  ·cases hz; exact (hf env).1
  ·cases hz; exact (hf env).2
  ·cases hz), h⟩
local macro_rules | `(tactic| wtm_at "m.leaf") => `(tactic| refine aVa (x := oS "parent") (y := oS "before") (by wtm_at "m.put") (by wtm_at "m.put") (by intro _; rfl) (by intro _; rfl) (by intro _; exact ⟨⟨_, rfl⟩, ⟨_, rfl⟩⟩) ?_)
noncomputable def newB (β : BS) (new : Node) (fr : List Node) (cx : List (Int × Int)) (e : Nat) : BS := { β with nodes := β.nodes ++ new :: fr, cont := β.cont ++ cx, contE := e }
noncomputable def insG (β : BS) (p : Int) (np : Node) (j : Nat) (new : Node) (fr : List Node) (cx : List (Int × Int)) (e : Nat) : BS :=
 { β with nodes := β.nodes.set p.toNat { np with kids := putK np.kids j β.nodes.length } ++ { new with parent := p } :: fr, cont := β.cont ++ cx, contE := e }
theorem aGh {n : Node} : addN β n = newB β n [] [] β.contE := by simp [addN, newB]
theorem aOv {p : Int} {np new : Node} {j : Nat} {fr : List Node} {cx : List (Int × Int)} {e : Nat} (hp : Nd β p np) : insAt (newB β new fr cx e) p np j β.nodes.length new = insG β p np j new fr cx e := by
 have h1 := hp.lt
 simp only [insAt, setN, newB, insG]
 congr 1
 rw [List.set_append_left _ _ h1, List.set_append_right _ _ (by simp)]
 simp
theorem Nd.new {i : Int} {n new : Node} {fr : List Node} {cx : List (Int × Int)} {e : Nat} (h : Nd β i n) : Nd (newB β new fr cx e) i n := ⟨h.lo, h.hi, by
 show (β.nodes ++ new :: fr)[i.toNat]? = _
 rw [List.getElem?_append_left h.lt]; exact h.at_⟩
theorem Nd.self {new : Node} {fr : List Node} {cx : List (Int × Int)} {e : Nat} (h : β.nodes.length < 1000000) : Nd (newB β new fr cx e) β.nodes.length new := ⟨by omega, by exact oz251 h, by
 show (β.nodes ++ new :: fr)[((β.nodes.length : Nat) : Int).toNat]? = _
 rw [Int.toNat_natCast, List.getElem?_append_right (Nat.le_refl _)]; simp⟩
theorem Plc.new {p bf : Int} {np new : Node} {j : Nat} {fr : List Node} {cx : List (Int × Int)} {e : Nat} (h : Plc β p bf np j) : Plc (newB β new fr cx e) p bf np j := ⟨h.nd.new, h.ok, h.sz⟩
theorem WFp.new {new : Node} {fr : List Node} {cx : List (Int × Int)} {e : Nat} (w : WFp β) (h1 : new.parent = -1) (h2 : ∀ f ∈ fr, f.parent = -1) (hz : β.nodes.length + 1 + fr.length ≤ 100000) : WFp (newB β new fr cx e) := by
 refine ⟨fun i n hn => ?_, by show (β.nodes ++ new :: fr).length ≤ _; simp; exact zn [β.nodes.length, fr.length] (.h 1 (.a (.a (.v 0) (.n 1)) (.v 1)) (.n 100000) .e) (.a (.v 0) (.a (.v 1) (.n 1))) (.n 100000) rfl hz⟩
 have h3 : (β.nodes ++ new :: fr)[i.toNat]? = some n := hn.at_
 rw [List.getElem?_append] at h3
 split at h3
 ·exact w.desc i n ⟨hn.lo, hn.hi, h3⟩
 ·refine .inl ?_
  cases hk : i.toNat - β.nodes.length with
  | zero => rwa [hk] at h3; exact h1
  | succ k => rw [hk] at h3; exact h2 n (List.mem_of_getElem? h3)
theorem aBw {p bf n : Int} {np new : Node} {j : Nat} {fr : List Node} {cx : List (Int × Int)} {e : Nat} (w : WFp β) (hp : Plc β p bf np j) (h1 : new.parent = -1) (h2 : ∀ f ∈ fr, f.parent = -1) (hz : β.nodes.length + 1 + fr.length ≤ 100000) (hn : n = β.nodes.length) (hb : bf < β.nodes.length)
  (h : ∀ ν', Q .none (BH X (insG β p np j new fr cx e) ν')) : Cd Γ 2 (.ref 582) [.ref .tree, .int p, .int n, .int bf] (BH X (newB β new fr cx e) ν) Q := by
 subst hn
 refine aO4 (w.new h1 h2 hz) hp.new (Nd.self (by exact zn [β.nodes.length, fr.length] (.h 1 (.a (.a (.v 0) (.n 1)) (.v 1)) (.n 100000) .e) (.a (.v 0) (.n 1)) (.n 1000000) rfl hz)) h1 (by have := hp.nd.lt; have := hp.nd.lo; omega) (by exact fun e => (zff (zco (zi [β.nodes.length] [bf] (.h 1 (.a (.w 0) (.n 1)) (.u 0) (.h 1 (.u 0) (.w 0) .e)) (.n 1) (.n 0) rfl hb (Int.le_of_eq e.symm))))) fun ν' => ?_
 rw [aOv hp.nd]; exact h ν'
structure Spot (β : BS) (p bf : Int) (np : Node) (j : Nat) : Prop where
 w : WFp β
 to : PlaceTo β p bf
 at_ : Plc β p bf np j
 bf : bf < β.nodes.length
 kind : np.kind ≠ oS "document"
 room : β.nodes.length + 2 ≤ 100000
noncomputable def aheadK (l : List Int) (j : Nat) : Int := if j = 0 then -1 else l[j - 1]?.getD (-1)
theorem aFp {l : List Int} : l.getLast?.getD (-1) = aheadK l l.length := by
 unfold aheadK
 cases l with
 | nil => rfl
 | cons a l => rw [if_neg (by simp), List.getLast?_eq_getElem?]
theorem aCx {x : Str} {p bf : Int} {np : Node} {j : Nat} (s : Spot β p bf np j) (ha : aheadK np.kids j = -1 ∨ ∃ na, Nd β (aheadK np.kids j) na ∧ na.kind ≠ oS "text") (hpar : bf ≠ -1 → ∃ nb, Nd β bf nb ∧ nb.parent = p)
  (h : ∀ ν', Q .none (BH X (insG β p np j (txtN x) [] [] β.contE) ν')) : Cd Γ 4 (.ref 92) [.ref .bld, .str x] (BH X β ν) Q := by
 have hto := s.to
 have hp := s.at_
 have hnp := hp.nd
 have hk := s.kind
 have hsz := hp.sz
 have hr := s.room
 have p0 := hnp.lo
 have hz : β.nodes.length ≤ 100000 := by omega
 have tail : ∀ (Q' : AV → AH → Prop), (∀ ν', Q' .none (BH X (insG β p np j (txtN x) [] [] β.contE) ν')) → Cl Γ 3 (.ref 582) [.ref .tree, .int p, .int β.nodes.length, .int bf] (BH X (addN β (txtN x)) ν) Q' := fun Q' hq => by
  rw [aGh]
  exact aA4 (aBw s.w hp rfl (by simp) (by simp; omega) rfl s.bf hq) rfl
 refine aP2 fun P => ?_
 rcases hp.ok with ⟨hb, hj⟩ | ⟨b0, hj, hno⟩
 ·subst hb; subst hj
  have e0 := aFp (l := np.kids)
  rcases ha with ha | ⟨na, hna, hkk⟩
  ·rw [← e0] at ha
   nofun
   refine tail _ fun ν' => ?_
   nofun
   exact aA1 (h _)
  ·rw [← e0] at hna
   have k1 : ¬ np.kids.getLast?.getD (-1) = -1 := by have := hna.lo; exact oz88 this
   nofun
   refine tail _ fun ν' => ?_
   nofun
   exact aA1 (h _)
 ·have b1 : ¬ bf = -1 := by exact oz88 b0
  obtain ⟨nb, hnb, rfl⟩ := hpar b1
  have b2 : nb.parent ≠ -1 := by exact oz0 p0
  have hj9 := (List.getElem?_eq_some_iff.mp hj).1
  rcases Nat.eq_zero_or_pos j with h0 | h0
  ·subst h0
   have c1 : ¬ (0 : Int) < ((0 : Nat) : Int) := by omega
   iterate 22 wtm_at "m.go"
   nofun
   refine aA4 (aGu hnb b2 hnp hj hno (by omega) ?_) rfl
   nofun
   refine tail _ fun ν' => ?_
   nofun
   exact aA1 (h _)
  ·have c1 : (0 : Int) < (j : Int) := by exact zi [j] [] (.h 1 (.c (.a (.n 0) (.n 1))) (.u 0) .e) (.a (.n 0) (.n 1)) (.u 0) rfl (zcl h0)
   obtain ⟨a, ea⟩ : ∃ a, np.kids[j - 1]? = some a := ⟨_, List.getElem?_eq_getElem (by omega)⟩
   have e3 : aheadK np.kids j = a := by rw [aheadK, if_neg (by exact fun e => (zff (zn [j] (.h 1 (.a (.n 0) (.n 1)) (.v 0) (.h 1 (.v 0) (.n 0) .e)) (.n 1) (.n 0) rfl h0 (Nat.le_of_eq e)))), ea]; rfl
   have e4 : np.kids[((j : Int) - 1).toNat]? = some a := by rw [← ea]; congr 1; omega
   nofun
   refine aA4 (aGu hnb b2 hnp hj hno (by omega) ?_) rfl
   rcases ha with ha | ⟨na, hna, hkk⟩
   ·rw [e3] at ha
    nofun
    refine tail _ fun ν' => ?_
    nofun
    exact aA1 (h _)
   ·rw [e3] at hna
    have k1 : ¬ a = -1 := by have := hna.lo; exact oz88 this
    nofun
    refine tail _ fun ν' => ?_
    nofun
    exact aA1 (h _)
theorem aIb {x : Str} {p bf : Int} {np na : Node} {j : Nat} (s : Spot β p bf np j) (hna : Nd β (aheadK np.kids j) na) (hkk : na.kind = oS "text") (hpar : bf ≠ -1 → ∃ nb, Nd β bf nb ∧ nb.parent = p) (hlen : na.text.length + x.length ≤ 1000000)
  (h : Q .none (BH X (setN β (aheadK np.kids j).toNat { na with text := na.text ++ x }) ν)) : Cd Γ 4 (.ref 92) [.ref .bld, .str x] (BH X β ν) Q := by
 have hto := s.to
 have hp := s.at_
 have hnp := hp.nd
 have hk := s.kind
 have hsz := hp.sz
 have hr := s.room
 have p0 := hnp.lo
 have hz : β.nodes.length ≤ 100000 := by omega
 refine aP2 fun P => ?_
 rcases hp.ok with ⟨hb, hj⟩ | ⟨b0, hj, hno⟩
 ·subst hb; subst hj
  have e0 := aFp (l := np.kids)
  rw [← e0] at hna h
  have k1 : ¬ np.kids.getLast?.getD (-1) = -1 := by have := hna.lo; exact oz88 this
  nofun
  exact aA1 h
 ·have b1 : ¬ bf = -1 := by exact oz88 b0
  obtain ⟨nb, hnb, rfl⟩ := hpar b1
  have b2 : nb.parent ≠ -1 := by exact oz0 p0
  have hj9 := (List.getElem?_eq_some_iff.mp hj).1
  have h0 : 0 < j := by
   rcases Nat.eq_zero_or_pos j with h0 | h0
   ·subst h0; have := hna.lo; rw [aheadK, if_pos rfl] at this; omega
   ·exact h0
  have c1 : (0 : Int) < (j : Int) := by exact zi [j] [] (.h 1 (.c (.a (.n 0) (.n 1))) (.u 0) .e) (.a (.n 0) (.n 1)) (.u 0) rfl (zcl h0)
  obtain ⟨a, ea⟩ : ∃ a, np.kids[j - 1]? = some a := ⟨_, List.getElem?_eq_getElem (by omega)⟩
  have e3 : aheadK np.kids j = a := by rw [aheadK, if_neg (by exact fun e => (zff (zn [j] (.h 1 (.a (.n 0) (.n 1)) (.v 0) (.h 1 (.v 0) (.n 0) .e)) (.n 1) (.n 0) rfl h0 (Nat.le_of_eq e)))), ea]; rfl
  have e4 : np.kids[((j : Int) - 1).toNat]? = some a := by rw [← ea]; congr 1; omega
  rw [e3] at hna h
  have k1 : ¬ a = -1 := by have := hna.lo; exact oz88 this
  nofun
  refine aA4 (aGu hnb b2 hnp hj hno (by omega) ?_) rfl
  nofun
  exact aA1 h
theorem aFa {x : Str} {p bf : Int} {np : Node} {j : Nat} (s : Spot β p bf np j) (h : ∀ ν', Q .none (BH X (insG β p np j (comN x) [] [] β.contE) ν')) : Cd Γ 4 (.ref 100) [.ref .bld, .str x] (BH X β ν) Q := by
 have hto := s.to
 have hr := s.room
 have hz : β.nodes.length ≤ 100000 := by omega
 refine aR1 fun P => ?_
 nofun
 rw [show addN β (⟨oS "comment", oS "", oS "", [], x, -1, []⟩ : Node) = newB β (comN x) [] [] β.contE from aGh]
 refine aA4 (aBw s.w s.at_ rfl (by simp) (by simp; omega) rfl s.bf fun ν' => ?_) rfl
 nofun
 exact aA1 (h _)
inductive Fr (nm : Str) (n : Nat) : List Node → List (Int × Int) → Prop
 | plain : nm ≠ oS "template" → Fr nm n [] []
 | tmpl : nm = oS "template" → Fr nm n [fragN] [((n : Int), (n : Int) + 1)]
structure WFc (β : BS) : Prop where
 lt : ∀ p ∈ β.cont, p.1 < β.nodes.length
 sz : β.cont.length ≤ 100000
theorem aSu {at_ : List (Str × Str)} {e : Nat} : tmplB β at_ e = newB β (elmN (oS "template") at_) [fragN] [((β.nodes.length : Int), (β.nodes.length : Int) + 1)] e := by simp [tmplB, addN, newB]
theorem aEf {nm : Str} {at_ : List (Str × Str)} (wc : WFc β) (hz : β.nodes.length + 2 ≤ 100000) (ha : at_.length ≤ 100000) (h : ∀ fr cx e, Fr nm β.nodes.length fr cx → Q (.int β.nodes.length) (BH X (newB β (elmN nm at_) fr cx e) ν)) :
  Cd Γ 2 (.ref 553) [.ref .tree, .str nm, .str "html", .tup (pairL at_)] (BH X β ν) Q := by
 by_cases q : nm = oS "template"
 ·subst q
  refine aJz (by exact zn [β.nodes.length] (.h 1 (.a (.v 0) (.n 2)) (.n 100000) .e) (.a (.v 0) (.n 1)) (.n 100000) rfl hz) ha (fun hm => ?_) wc.sz fun e => ?_
  ·obtain ⟨p, h1, h2⟩ := List.mem_map.mp hm
   have := wc.lt p h1; omega
  ·rw [aSu]; exact h _ _ _ (.tmpl rfl)
 ·refine aMb (by omega) ha q ?_
  rw [aGh]; exact h _ _ _ (.plain q)
theorem aQg {nm : Str} {at_ : List (Str × Str)} (wc : WFc β) (hz : β.nodes.length + 2 ≤ 100000) (ha : at_.length ≤ 100000) (h : ∀ fr cx e, Fr nm β.nodes.length fr cx → Q (.int β.nodes.length) (BH X (newB β (elmN nm at_) fr cx e) ν)) :
  Cd Γ 3 (.ref 108) [.ref .bld, .str nm, .tup (pairL at_), .str "html"] (BH X β ν) Q := by
 refine aR3 fun P => ?_
 nofun
 refine aA4 (aEf wc hz ha fun fr cx e hf => ?_) rfl
 exact aA3 (h _ _ _ hf)
theorem aQf {nm : Str} {at_ : List (Str × Str)} (wc : WFc β) (hz : β.nodes.length + 2 ≤ 100000) (ha : at_.length ≤ 100000) (h : ∀ fr cx e, Fr nm β.nodes.length fr cx → Q (.int β.nodes.length) (BH X (newB β (elmN nm at_) fr cx e) ν)) :
  Cd Γ 3 (.ref 108) [.ref .bld, .str nm, .tup (pairL at_)] (BH X β ν) Q := by
 refine aR2 fun P => ?_
 nofun
 refine aA4 (aEf wc hz ha fun fr cx e hf => ?_) rfl
 exact aA3 (h _ _ _ hf)
theorem Fr.par {nm : Str} {n : Nat} {fr : List Node} {cx : List (Int × Int)} (h : Fr nm n fr cx) : (∀ f ∈ fr, f.parent = -1) ∧ fr.length ≤ 1 := by
 cases h with
 | plain _ => simp
 | tmpl _ => simp
noncomputable def insE (β : BS) (p : Int) (np : Node) (j : Nat) (nm : Str) (at_ : List (Str × Str)) (fr : List Node) (cx : List (Int × Int)) (e : Nat) : BS := { insG β p np j (elmN nm at_) fr cx e with items := β.items ++ [(β.nodes.length : Int)] }
theorem aBp {nm : Str} {at_ : List (Str × Str)} {p bf : Int} {np : Node} {j : Nat} (s : Spot β p bf np j) (wc : WFc β) (ha : at_.length ≤ 100000) (hi : β.items.length ≤ 100000) (h : ∀ fr cx e ν', Fr nm β.nodes.length fr cx → Q (.int β.nodes.length) (BH X (insE β p np j nm at_ fr cx e) ν')) (P : Plain fc_117) :
  Exs Γ fc_117 3 (bodyS (stAt 16)) [(oS "builder", some (.ref .bld)), (oS "name", some (.str nm)), (oS "attrs", some (.tup (pairL at_))), (oS "space", some (.str "html")), (oS "parent", none), (oS "before", none), (oS "node", none)] (BH X β ν) (RetQ Q) := by
 have hto := s.to
 have hr := s.room
 nofun
 refine aA4 (aQg wc hr ha fun fr cx e hf => ?_) rfl
 nofun
 refine aA4 (aBw s.w s.at_ rfl hf.par.1 (by have := hf.par.2; exact zn [fr.length, β.nodes.length] (.h 1 (.a (.v 1) (.n 2)) (.n 100000) (.h 1 (.v 0) (.n 1) .e)) (.a (.a (.v 1) (.n 1)) (.v 0)) (.n 100000) rfl hr this) rfl s.bf fun ν' => ?_) rfl
 have hz : (insG β p np j (elmN nm at_) fr cx e).items.length ≤ 1000000 := by show β.items.length ≤ _; omega
 nofun
 exact aA3 (h _ _ _ _ hf)
theorem aDi {nm : Str} {at_ : List (Str × Str)} {p bf : Int} {np : Node} {j : Nat} (s : Spot β p bf np j) (wc : WFc β) (ha : at_.length ≤ 100000) (hi : β.items.length ≤ 100000) (h : ∀ fr cx e ν', Fr nm β.nodes.length fr cx → Q (.int β.nodes.length) (BH X (insE β p np j nm at_ fr cx e) ν')) :
  Cd Γ 4 (.ref 117) [.ref .bld, .str nm, .tup (pairL at_)] (BH X β ν) Q := aR5 (aBp s wc ha hi h)
theorem aBk {nm : Str} {p bf : Int} {np : Node} {j : Nat} (s : Spot β p bf np j) (wc : WFc β) (hi : β.items.length ≤ 100000) (h : ∀ fr cx e ν', Fr nm β.nodes.length fr cx → Q (.int β.nodes.length) (BH X (insE β p np j nm [] fr cx e) ν')) :
  Cd Γ 4 (.ref 117) [.ref .bld, .str nm] (BH X β ν) Q := aR4 (aBp (at_ := []) s wc (by simp) hi h)
theorem aEg {x : Str} (hz : ∀ v ∈ β.items, ∃ n, Nd β v n ∧ n.name ≠ x) (h : Q (.bool false) (BH X β ν)) : Cd Γ 2 (.ref 222) [.ref .stack, .str x] (BH X β ν) Q := by
 refine aRe fun P => ?_
 refine aAt (fun k ρ H => ∃ u, ρ = [(oS "self", some (.ref .stack)), (oS "name", some (.str x)), (oS "node", u)] ∧ H = BH X β ν) ?_
 refine aBf ?_
 nofun
 refine ⟨.items, intL β.items, rfl, rfl, ⟨none, rfl, rfl⟩, ?_, ?_, ?_⟩
 ·rintro k _ _ ⟨w, rfl, rfl⟩; rfl
 ·rintro k _ _ u ⟨w, rfl, rfl⟩ hu
  rw [intL, List.getElem?_map] at hu
  obtain ⟨v, hv, rfl⟩ := Option.map_eq_some_iff.mp hu
  obtain ⟨n, hn, hx⟩ := hz v (List.mem_of_getElem? hv)
  have e1 : (decide (n.space = oS "html") && decide (n.name = x)) = false := by simp [hx]
  refine ⟨_, aAv (by wtm_at "m.put"), ?_⟩
  nofun
  exact aAd ⟨_, rfl, rfl⟩
 ·rintro _ _ ⟨w, rfl, rfl⟩
  nofun
  exact aA3 h
noncomputable def owns : List AV := [AV.str "button", .str "fieldset", .str "input", .str "object", .str "output", .str "select", .str "textarea", .str "img"]
noncomputable def asB (β : BS) (n : Int) (nm : Str) (e : Nat) : BS := if β.form ≠ -1 ∧ nm = oS "input" then { β with owners := β.owners ++ [(n, β.form)], ownE := e } else β
structure AsOk (β : BS) (nm : Str) (at_ : List (Str × Str)) : Prop where
 nm : nm = oS "input" ∨ owns.any (isStr nm) = false
 at_ : ∀ q ∈ at_, q.1 ≠ oS "form"
 items : ∀ v ∈ β.items, ∃ n, Nd β v n ∧ n.name ≠ oS "template"
 own : ∀ p ∈ β.owners, p.1 < β.nodes.length
 sz : β.owners.length ≤ 100000
theorem aQ9 {n : Int} {nn : Node} {nm : Str} (hn : Nd β n nn) (hnm : nn.name = nm) (hi : nm = oS "input" ∨ owns.any (isStr nm) = false) (ha : ∀ q ∈ nn.attrs, q.1 ≠ oS "form") (hz : nm = oS "input" → ∀ v ∈ β.items, ∃ n, Nd β v n ∧ n.name ≠ oS "template") (ho : n ∉ β.owners.map (·.1)) (hs : β.owners.length ≤ 100000)
  (h : ∀ e, Q .none (BH X (asB β n nm e) ν)) : Cd Γ 3 (.ref 138) [.ref .bld, .int n] (BH X β ν) Q := by
 refine aR7 fun P => ?_
 by_cases hf : β.form = -1
 ·have e : asB β n nm 0 = β := if_neg fun q => q.1 hf
  have := h 0
  rw [e] at this
  nofun
  exact aA3 this
 ·rcases hi with rfl | hi
  ·have i1 : [AV.str "button", .str "fieldset", .str "input", .str "object", .str "output", .str "select", .str "textarea", .str "img"].any (isStr nn.name) = true := by rw [hnm]; decide +kernel
   have i2 : ¬ nn.name = oS "img" := by rw [hnm]; decide +kernel
   have e : ∀ e, asB β n (oS "input") e = { β with owners := β.owners ++ [(n, β.form)], ownE := e } := fun e => if_pos ⟨hf, rfl⟩
   nofun
   refine aA4 (aGx hn ha ?_) rfl
   nofun
   refine aA4 (aEg (hz rfl) ?_) rfl
   nofun
   refine aNs ho (by omega) fun ep => ?_
   nofun
   refine aA1 ?_
   rw [← e ep]; exact h ep
  ·have hne : nm ≠ oS "input" := fun q => by subst q; revert hi; decide +kernel
   have e : asB β n nm 0 = β := if_neg fun q => hne q.2
   have := h 0
   rw [e] at this
   unfold owns at hi
   subst hnm
   nofun
   exact aA3 this
theorem Nd.insG_old {i p : Int} {n np new : Node} {j : Nat} {fr : List Node} {cx : List (Int × Int)} {e : Nat} (h : Nd β i n) (hp : Nd β p np) : ∃ n', Nd (insG β p np j new fr cx e) i n' ∧ n'.kind = n.kind ∧ n'.space = n.space ∧ n'.name = n.name ∧ n'.attrs = n.attrs ∧ n'.text = n.text ∧ n'.parent = n.parent := by
 have h1 := h.lt
 have hi := h.lo
 have hq := hp.lo
 by_cases q : i = p
 ·subst q
  have : n = np := Option.some.inj (h.at_.symm.trans hp.at_)
  subst this
  refine ⟨{ n with kids := putK n.kids j β.nodes.length }, ⟨h.lo, h.hi, ?_⟩, rfl, rfl, rfl, rfl, rfl, rfl⟩
  show (β.nodes.set i.toNat _ ++ _)[i.toNat]? = _
  rw [List.getElem?_append_left (by simpa using h1), aAz h.at_, if_pos rfl]
 ·refine ⟨n, ⟨h.lo, h.hi, ?_⟩, rfl, rfl, rfl, rfl, rfl, rfl⟩
  show (β.nodes.set p.toNat _ ++ _)[i.toNat]? = _
  rw [List.getElem?_append_left (by simpa using h1), aAz hp.at_, if_neg (by exact oz264 hi hq q)]
  exact h.at_
theorem Nd.insG_new {p : Int} {np new : Node} {j : Nat} {fr : List Node} {cx : List (Int × Int)} {e : Nat} (h : β.nodes.length < 1000000) : Nd (insG β p np j new fr cx e) β.nodes.length { new with parent := p } := ⟨by omega, by exact oz251 h, by
 show (β.nodes.set p.toNat _ ++ _)[((β.nodes.length : Nat) : Int).toNat]? = _
 rw [Int.toNat_natCast, List.getElem?_append_right (by simp)]; simp⟩
theorem Nd.insE {i p : Int} {n np : Node} {j : Nat} {nm : Str} {at_ : List (Str × Str)} {fr : List Node} {cx : List (Int × Int)} {e : Nat} (h : Nd (insG β p np j (elmN nm at_) fr cx e) i n) : Nd (insE β p np j nm at_ fr cx e) i n := ⟨h.lo, h.hi, h.at_⟩
structure TokOk (β : BS) (nm : Str) (at_ : List (Str × Str)) : Prop where
 wc : WFc β
 len : at_.length ≤ 100000
 items : β.items.length ≤ 100000
 nm : nm = oS "input" ∨ owns.any (isStr nm) = false
 at_ : ∀ q ∈ at_, q.1 ≠ oS "form"
 open_ : ∀ v ∈ β.items, ∃ n, Nd β v n ∧ n.name ≠ oS "template"
 own : ∀ p ∈ β.owners, p.1 < β.nodes.length
 ownz : β.owners.length ≤ 100000
theorem aAy {nm kd : Str} {at_ : List (Str × Str)} {r : List AV} {p bf : Int} {np : Node} {j : Nat} (s : Spot β p bf np j) (t : TokOk β nm at_) (h : ∀ fr cx e e' ν', Fr nm β.nodes.length fr cx → Q (.int β.nodes.length) (BH X (asB (insE β p np j nm at_ fr cx e) β.nodes.length nm e') ν')) :
  Cd Γ 5 (.ref 124) [.ref .bld, .tup (.str kd :: .str nm :: .tup (pairL at_) :: r)] (BH X β ν) Q := by
 refine aR6 fun P => ?_
 nofun
 refine aA4 (aDi s t.wc t.len t.items fun fr cx e ν' hf => ?_) rfl
 have hr := s.room
 nofun
 refine aA4 (aQ9 (nm := nm) (Nd.insE (Nd.insG_new (by exact oz265 hr))) rfl t.nm t.at_ ?_ ?_ t.ownz fun e' => ?_) rfl
 ·rintro rfl v hv
  have hv' : v ∈ β.items ++ [(β.nodes.length : Int)] := hv
  rw [List.mem_append, List.mem_singleton] at hv'
  rcases hv' with hv' | rfl
  ·refine hZ fun GZ kZ => ?_
   obtain ⟨n, hn, q⟩ := t.open_ v hv'
   obtain ⟨n', hn', _, _, q3, _⟩ := hn.insG_old (j := j) (new := elmN (oS "input") at_) (fr := fr) (cx := cx) (e := e) s.at_.nd
   refine kZ ?_
   exact ⟨n', hn'.insE, by rw [q3]; exact q⟩
  ·exact ⟨_, (Nd.insG_new (by exact oz265 hr)).insE, by show oS "input" ≠ _; decide +kernel⟩
 ·intro hm
  obtain ⟨q, h1, h2⟩ := List.mem_map.mp hm
  have := t.own q h1; omega
 ·nofun
  exact aA3 (h _ _ _ _ _ hf)
theorem aUj {k : Int} {nk : Node} (hv : β.items.getLast? = some k) (hn : Nd β k nk) (hs : nk.space = oS "html") (hz : β.items.length ≤ 1000000) (h : Q (.str nk.name) (BH X β ν)) : Cd Γ 2 (.ref 215) [.ref .stack] (BH X β ν) Q := by
 have k0 : ¬ k = -1 := by have := hn.lo; exact oz88 this
 refine aRd fun P => ?_
 nofun
 exact aA3 h
theorem aO6 {k : Int} {nk : Node} {l : List AV} (hv : β.items.getLast? = some k) (hn : Nd β k nk) (hs : nk.space = oS "html") (hl : allStr l = true) (hin : l.any (isStr nk.name) = true) (hz : β.items.length ≤ 1000000) (h : Q .none (BH X β ν)) : Cd Γ 3 (.ref 236) [.ref .stack, .tup l] (BH X β ν) Q := by
 refine aRg fun P => ?_
 refine aC6 (fun k ρ H => ρ = [(oS "self", some (.ref .stack)), (oS "names", some (.tup l))] ∧ H = BH X β ν) 0 ⟨rfl, rfl⟩ ?_
 rintro k _ _ ⟨rfl, rfl⟩
 by_cases c : (1 : Int) < β.items.length
 ·iterate 14 wtm_at "m.go"
  nofun
  refine ⟨_, aDr hl, ?_⟩
  nofun
  exact aA1 h
 ·nofun
  exact aA1 h
theorem aI8 {k : Int} {nk : Node} {l : List AV} (hv : β.items.getLast? = some k) (hn : Nd β k nk) (hs : nk.space = oS "html") (hl : allStr l = true) (hin : l.any (isStr nk.name) = true) (hz : β.items.length ≤ 1000000) (h : Q (.int k) (BH X { β with items := β.items.dropLast } ν)) : Cd Γ 3 (.ref 229) [.ref .stack, .tup l] (BH X β ν) Q := by
 refine aRf fun P => ?_
 refine aC6 (fun k ρ H => ρ = [(oS "self", some (.ref .stack)), (oS "names", some (.tup l)), (oS "name", none), (oS "node", none)] ∧ H = BH X β ν) 0 ⟨rfl, rfl⟩ ?_
 rintro k _ _ ⟨rfl, rfl⟩
 have c : (0 : Int) < β.items.length := by
  cases e : β.items with
  | nil => rwa [e] at hv
  | cons _ _ => simp
 nofun
 refine ⟨_, aE9 hl, ?_⟩
 nofun
 exact aA3 h
theorem aJt {k : Int} {nk : Node} {l : List AV} {so : AV} (hv : β.items.getLast? = some k) (hn : Nd β k nk) (hs : nk.space = oS "html") (hl : allStr l = true) (hin : l.any (isStr nk.name) = true) (hz : β.items.length ≤ 100000) (h : ∀ ν', Q (.bool true) (BH X β ν')) : Cd Γ 3 (.ref 258) [.ref .stack, .tup l, so] (BH X β ν) Q := by
 have hz2 : β.items.length ≤ 1000000 := by omega
 have c : 0 < β.items.length := by
  cases e : β.items with
  | nil => rwa [e] at hv
  | cons _ _ => simp
 have g1 : β.items[((β.items.length : Int) - 1).toNat]? = some k := by
  rw [List.getLast?_eq_getElem?] at hv
  rw [← hv]; congr 1; omega
 refine aRh fun P => ?_
 nofun
 refine aAt (fun i ρ H => i = 0 ∧ ρ = [(oS "stack", some (.ref .stack)), (oS "names", some (.tup l)), (oS "sort", some so), (oS "tree", some (.ref .tree)), (oS "at", none), (oS "node", none)] ∧ H = upd (BH X β ν) (.tm ν) (.live (.rng ((β.items.length : Int) - 1) (-1) (-1)))) ?_
 refine aKw ?_
 nofun
 refine aMy (.tm ν) aKq (by decide) (by decide) ?_
 have hr : Builtin.Range.rangeSize ((β.items.length : Int) - 1) (-1) (-1) = β.items.length := by
  unfold Builtin.Range.rangeSize
  rw [if_neg (by decide), if_pos (by exact zi [β.items.length] [] (.h 1 (.c (.a (.n 0) (.n 1))) (.u 0) .e) (.a (.g (.n 1)) (.n 1)) (.s (.u 0) (.n 1)) rfl (zcl c))]
  simp
 refine ⟨.tm ν, _, _, _, rfl, aA2, ?_, by rw [hr]; omega, ?_⟩
 ·unfold Builtin.Range.small
  rw [hr]
  simp [Builtin.Range.rangeFitsLong]; exact ⟨⟨(zi [β.items.length] [] .e (.g (.n 9223372036854775808)) (.s (.u 0) (.n 1)) rfl), (zi [β.items.length] [] (.h 1 (.u 0) (.n 100000) .e) (.a (.s (.u 0) (.n 1)) (.n 1)) (.n 9223372036854775808) rfl (zcl hz))⟩, (zi [β.items.length] [] (.h 1 (.u 0) (.n 100000) .e) (.a (.u 0) (.n 1)) (.n 9223372036854775808) rfl (zcl hz))⟩
 ·refine ⟨⟨rfl, rfl, rfl⟩, fun _ _ _ _ => trivial, ?_, ?_⟩
  ·rintro i _ _ u ⟨rfl, rfl, rfl⟩ hu
   have hu2 : u = .int ((β.items.length : Int) - 1) := by
    rw [rngItems, List.getElem?_map] at hu
    obtain ⟨q, h1, h2⟩ := Option.map_eq_some_iff.mp hu
    rw [hr] at h1
    have : q = 0 := by
     rw [List.getElem?_range (by exact zco (zi [β.items.length, (Int.toNat (↑β.items.length : Int))] [] (.h 1 (.c (.a (.n 0) (.n 1))) (.u 0) (.h 1 (.u 0) (.u 1) .e)) (.c (.a (.n 0) (.n 1))) (.u 1) rfl (zcl c) (Int.le_of_eq (Eq.symm (Int.toNat_of_nonneg (zi [β.items.length] [] .e (.n 0) (.u 0) rfl))))))] at h1; exact (Option.some.inj h1).symm
    subst this
    rw [← h2]; simp
   subst hu2
   refine ⟨_, aAv (by wtm_at "m.put"), aKv aPd ?_⟩
   nofun
   refine ⟨_, aE9 hl, ?_⟩
   nofun
   exact aA3 (h _)
  ·rintro _ _ ⟨h0, _⟩
   exfalso
   rw [rngItems, List.length_map, List.length_range, hr] at h0
   exact zff (zco (zi [β.items.length, (Int.toNat (↑β.items.length : Int))] [] (.h 1 (.c (.a (.n 0) (.n 1))) (.u 0) (.h 1 (.u 1) (.n 0) (.h 1 (.u 0) (.u 1) .e))) (.n 1) (.n 0) rfl (zcl c) (zcl (Nat.le_of_eq h0)) (Int.le_of_eq (Eq.symm (Int.toNat_of_nonneg (zi [β.items.length] [] .e (.n 0) (.u 0) rfl))))))
theorem aMe (h : ∀ ν', Q (.str "in body") (BH X β ν')) : Cd Γ 1 (.ref 265) [.str "body"] (BH X β ν) Q := by
 refine aRi fun P => ?_
 refine aAw (aJe (.tm ν) (by intro _; rfl) aKq ?_)
 repeat' (first | refine aBb ?_ | refine aHu ?_ | refine aJf ?_)
 refine ⟨aA2, by decide +kernel, ?_⟩
 rw [aKo]
 repeat' wtm_at "m.xp"
 refine aEb (aEa (aB8 (by wtm_at "m.get") (aBa PySem.F.plainAttrs_dict PySem.F.slot_dict_get PySem.F.type_dict_get (i := .tm ν) aA2 rfl ?_)))
 repeat' wtm_at "m.xp"
 exact aHv aPd (h _)
theorem aC5 {d' : Nat} {f : Value} {args : List AV} (h : Cd Γ d' f args H Q) (hd : d' ≤ d) : Cl Γ d f args H Q := (h.less hd).cl
theorem Cd.mono {f : Value} {args : List AV} {Q' : AV → AH → Prop} (h : Cd Γ d f args H Q) (k : ∀ v H', Q v H' → Q' v H') : Cd Γ d f args H Q' := Cd.mk fun A s φ xs R S r =>
 codeAny_mono (h.go A s φ xs R S r) fun r s' p => by
  rcases r with e | (v | _ | _ | _) <;> first | exact p.elim | skip
  obtain ⟨v, H', φ', q, z1, z2, z3⟩ := p
  exact ⟨v, H', φ', k _ _ q, z1, z2, z3⟩
structure Rl (name : Str) (f : Addr) : Prop where
 fld : Fld name (.glob (.ref f)) rulesD
 any : (rulesD.any fun p => decide (p.1 = name)) = true
 keep : ∀ P, keepIn (K P) (.ref f) = true
theorem aCo : Rl (oS "in table") 377 := ⟨by unfold rulesD; wtm_at "m.fld", by decide +kernel, fun _ => ⋯⟩
theorem aKk : Rl (oS "in table text") 391 := ⟨by unfold rulesD; wtm_at "m.fld", by decide +kernel, fun _ => ⋯⟩
theorem aHh : Rl (oS "in table body") 759 := ⟨by unfold rulesD; wtm_at "m.fld", by decide +kernel, fun _ => ⋯⟩
theorem aTg : Rl (oS "in row") 759 := ⟨by unfold rulesD; wtm_at "m.fld", by decide +kernel, fun _ => ⋯⟩
theorem aP5 : Rl (oS "in head") 752 := ⟨by unfold rulesD; wtm_at "m.fld", by decide +kernel, fun _ => ⋯⟩
theorem aHg : Rl (oS "in body") 745 := ⟨by unfold rulesD; wtm_at "m.fld", by decide +kernel, fun _ => ⋯⟩
theorem aDs {name : Str} {tok : AV} {f : Addr} (r : Rl name f) (h : Cl Γ d (.ref f) [.ref .bld, tok] (BH X β ν) (fun v H' => v = .none ∧ Q .none H')) : Cd Γ (d + 1) (.ref 681) [.ref .bld, .str name, tok] (BH X β ν) Q := by
 have ha := r.any
 refine aSb fun P => ?_
 nofun
 refine aKz r.fld ?_
 refine aJg (by wtm_at "m.put") ?_
 refine aD1 (aKs (by wtm_at "m.get") (r.keep _) ?_)
 nofun
 refine h.mono fun v H' ⟨h1, h2⟩ => ?_
 subst h1
 nofun
 exact aA1 h2
theorem aJl {k : Int} (hv : β.items.getLast? = some k) (hz : β.items.length ≤ 1000000) (h : Q (.int k) (BH X β ν)) : Cd Γ 2 (.ref 702) [.ref .bld] (BH X β ν) Q := by
 refine aSd fun P => ?_
 by_cases c : (β.items.length : Int) = 1
 ·nofun
  exact aA3 h
 ·nofun
  exact aA3 h
theorem aGo {k : Int} {nk : Node} (hv : β.items.getLast? = some k) (hn : Nd β k nk) (hs : nk.space = oS "html") (hz : β.items.length ≤ 1000000) (h : Q (.bool false) (BH X β ν)) : Cd Γ 3 (.ref 709) [.ref .bld] (BH X β ν) Q := by
 have k0 : ¬ k = -1 := by have := hn.lo; exact oz88 this
 refine aSe fun P => ?_
 nofun
 rw [hs]
 exact aA3 h
theorem aI6 {k : Int} {nk : Node} {tok : AV} (hv : β.items.getLast? = some k) (hn : Nd β k nk) (hs : nk.space = oS "html") (hz : β.items.length ≤ 1000000) (h : Q (.bool true) (BH X β ν)) : Cd Γ 4 (.ref 723) [.ref .bld, tok] (BH X β ν) Q := by
 refine aSf fun P => ?_
 nofun
 refine aA4 (aGo hv hn hs hz ?_) rfl
 nofun
 exact aA3 h
structure Tp (β : BS) (k : Int) (nk : Node) : Prop where
 hv : β.items.getLast? = some k
 hn : Nd β k nk
 hs : nk.space = oS "html"
 hz : β.items.length ≤ 1000000
theorem aAp {k : Int} {nk : Node} {tok : AV} {f : Addr} {n : Nat} (t : Tp β k nk) (r : Rl β.mode f) (hd : n + 5 ≤ d) (h : Cl Γ n (.ref f) [.ref .bld, tok] (BH X β ν) (fun v H' => v = .none ∧ Q .none H')) : Cd Γ (d + 1) (.ref 688) [.ref .bld, tok] (BH X β ν) Q := by
 refine aSc fun P => ?_
 nofun
 refine aC5 (aI6 t.hv t.hn t.hs t.hz ?_) (by exact zn [n, d] (.h 1 (.a (.v 0) (.n 5)) (.v 1) .e) (.n 4) (.v 1) rfl hd)
 nofun
 refine aC5 (aDs r (h.mono fun v H' q => ⟨q.1, ?_⟩)) (by omega)
 refine aAj ?_
 refine aAg (aA9 (aAg ?_))
 exact aA1 q.2
theorem aAl {kd : Str} {r : List AV} {n : Nat} (hk : kd ≠ oS "start") (hd : n ≤ d) (h : Cd Γ n (.ref 688) [.ref .bld, .tup (.str kd :: r)] (BH X { β with ack := false } ν) (fun v H' => v = .none ∧ Q .none H')) :
  Cd Γ (d + 1) (.ref 695) [.ref .bld, .tup (.str kd :: r)] (BH X β ν) Q := by
 refine aLf fun P => ?_
 nofun
 refine aC5 (h.mono fun v H' q => ?_) hd
 obtain ⟨rfl, q⟩ := q
 nofun
 exact aA1 q
noncomputable def finB (β : BS) (cl : Bool) : BS := if cl && !β.ack then { β with errors := β.errors ++ [(oS "non-void-html-element-start-tag-with-trailing-solidus", β.mode)] } else β
theorem aBv {nm : Str} {at_ : AV} {cl : Bool} {n : Nat} (hd : n + 1 ≤ d) (h : Cd Γ n (.ref 688) [.ref .bld, .tup [.str "start", .str nm, at_, .bool cl]] (BH X { β with ack := false } ν) (fun v H' => v = .none ∧ ∃ β' ν', H' = BH X β' ν' ∧ β'.errors.length ≤ 1000000 ∧ Q .none (BH X (finB β' cl) ν'))) :
  Cd Γ (d + 1) (.ref 695) [.ref .bld, .tup [.str "start", .str nm, at_, .bool cl]] (BH X β ν) Q := by
 refine aLf fun P => ?_
 nofun
 refine aC5 (h.mono fun v H' q => ?_) (by omega)
 obtain ⟨rfl, β', ν', rfl, hz, q⟩ := q
 cases cl with
 | false =>
  nofun
  exact aA1 q
 | true =>
  cases ha : β'.ack with
  | true =>
   have e : finB β' true = β' := by rw [finB, ha]; rfl
   rw [e] at q
   nofun
   exact aA1 q
  | false =>
   have e : finB β' true = { β' with errors := β'.errors ++ [(oS "non-void-html-element-start-tag-with-trailing-solidus", β'.mode)] } := by rw [finB, ha]; rfl
   rw [e] at q
   nofun
   refine aC5 (aL2 hz ?_) (by exact zn [n, d] (.h 1 (.a (.v 0) (.n 1)) (.v 1) .e) (.n 1) (.v 1) rfl hd)
   nofun
   exact aA1 q
theorem aJw {k a : Int} {nk : Node} (hn : Nd β k nk) (hs : nk.space = oS "html") (hb : nk.name = oS "body") (h : ∀ ν', Q (.str "in body") (BH X β ν')) : Cd Γ 2 (.ref 279) [.ref .bld, .int k, .int a] (BH X β ν) Q := by
 have n1 : ¬ nk.name = oS "select" := by rw [hb]; decide +kernel
 have n2 : ¬ nk.name = oS "template" := by rw [hb]; decide +kernel
 have n3 : ¬ nk.name = oS "html" := by rw [hb]; decide +kernel
 have n4 : [AV.str "td", .str "th", .str "head"].any (isStr nk.name) = false := by rw [hb]; decide +kernel
 have fin : ∀ (Q' : AV → AH → Prop), (∀ ν', Q' (.str "in body") (BH X β ν')) → Cl Γ 1 (.ref 265) [.str nk.name] (BH X β ν) Q' := fun Q' hq => by rw [hb]; exact aA4 (aMe hq) rfl
 refine aRj fun P => ?_
 by_cases c : a = 0
 ·nofun
  refine fin _ fun ν' => ?_
  exact aA3 (h _)
 ·nofun
  refine fin _ fun ν' => ?_
  exact aA3 (h _)
theorem aQj {k0 k : Int} {nk : Node} (hi : β.items = [k0, k]) (hn : Nd β k nk) (hs : nk.space = oS "html") (hb : nk.name = oS "body") (h : ∀ ν', Q .none (BH X { β with mode := oS "in body" } ν')) : Cd Γ 3 (.ref 286) [.ref .bld] (BH X β ν) Q := by
 have hz : β.items.length ≤ 1000000 := by rw [hi]; simp
 have hl : ((β.items.length : Int)) - 1 = 1 := by rw [hi]; rfl
 have g1 : β.items[(1 : Int).toNat]? = some k := by rw [hi]; rfl
 refine aRk fun P => ?_
 nofun
 rw [hl]
 refine aC6 (fun n ρ H => ∃ ν', H = BH X β ν' ∧ ((n = 1 ∧ ρ = [(oS "builder", some (.ref .bld)), (oS "at", some (.int 1)), (oS "mode", some (.str "")), (oS "node", none)]) ∨
  (n = 0 ∧ ρ = [(oS "builder", some (.ref .bld)), (oS "at", some (.int (1 - 1))), (oS "mode", some (.str "in body")), (oS "node", some (.int k))]))) 1 ⟨ν, rfl, .inl ⟨rfl, rfl⟩⟩ ?_
 rintro n _ _ ⟨ν', rfl, ⟨rfl, rfl⟩ | ⟨rfl, rfl⟩⟩
 ·nofun
  refine aA4 (aJw hn hs hb fun ν2 => ?_) rfl
  nofun
  refine ⟨_, rfl, ?_⟩
  nofun
  exact aAd ⟨0, by omega, ν2, rfl, .inr ⟨rfl, rfl⟩⟩
 ·nofun
  exact aA1 (h _)
theorem aQa {k0 k1 k : Int} {nk n1 : Node} (hi : β.items = [k0, k1, k]) (hn : Nd β k nk) (hs : nk.space = oS "html") (hb : nk.name = oS "table") (hn1 : Nd β k1 n1) (hs1 : n1.space = oS "html") (hb1 : n1.name = oS "body") (h : ∀ ν', Q (.bool true) (BH X { β with items := [k0, k1], mode := oS "in body" } ν')) :
  Cd Γ 4 (.ref 321) [.ref .bld] (BH X β ν) Q := by
 have hz : β.items.length ≤ 100000 := by rw [hi]; simp
 have hv : β.items.getLast? = some k := by rw [hi]; rfl
 have ht : [AV.str "table"].any (isStr nk.name) = true := by rw [hb]; decide +kernel
 refine aRp fun P => ?_
 nofun
 refine aA4 (aJt hv hn hs rfl ht hz fun ν' => ?_) rfl
 nofun
 refine aA4 (aI8 hv hn hs rfl ht (by omega) ?_) rfl
 nofun
 have e : β.items.dropLast = [k0, k1] := by rw [hi]; rfl
 rw [e]
 refine aA4 (aQj (β := { β with items := [k0, k1] }) rfl ⟨hn1.lo, hn1.hi, hn1.at_⟩ hs1 hb1 fun ν2 => ?_) rfl
 nofun
 exact aA3 (h _)
noncomputable def valA (l : List (Str × Str)) (x : Str) : AV := match l.find? (fun p => decide (p.1 = x)) with | some p => .str p.2 | none => .none
theorem aCy {kd nm : AV} {y : Str} {at_ : List (Str × Str)} {r : List AV} (h : Q (valA at_ y) H) : Cd Γ 1 (.ref 293) [.tup (kd :: nm :: .tup (pairL at_) :: r), .str y] H Q := by
 refine aRl fun P => ?_
 refine aAt (fun k ρ H' => (∃ u, ρ = [(oS "token", some (.tup (kd :: nm :: .tup (pairL at_) :: r))), (oS "name", some (.str y)), (oS "pair", u)]) ∧ H' = H ∧ ∀ i p, i < k → at_[i]? = some p → p.1 ≠ y) ?_
 refine aW3 ?_
 nofun
 refine ⟨_, rfl, ⟨⟨none, rfl⟩, rfl, by omega⟩, fun _ _ _ _ => trivial, ?_, ?_⟩
 ·rintro k _ _ u ⟨⟨w, rfl⟩, rfl, hno⟩ hu
  rw [pairL, List.getElem?_map] at hu
  obtain ⟨p, hp, rfl⟩ := Option.map_eq_some_iff.mp hu
  refine ⟨_, aAv (by wtm_at "m.put"), ?_⟩
  unfold pairA
  by_cases c : p.1 = y
  ·nofun
   refine aA3 ?_
   have : at_.find? (fun p => decide (p.1 = y)) = some p := by
    rw [List.find?_eq_some_iff_getElem]
    obtain ⟨hk, e⟩ := List.getElem?_eq_some_iff.mp hp
    exact ⟨by simp [c], k, hk, e, fun j hj => by
     have := hno j at_[j] hj (List.getElem?_eq_getElem (by exact zn [j, k, at_.length] (.h 1 (.a (.v 1) (.n 1)) (.v 2) (.h 1 (.a (.v 0) (.n 1)) (.v 1) .e)) (.a (.v 0) (.n 1)) (.v 2) rfl hk hj))
     simp [this]⟩
   rw [valA, this] at h
   exact h
  ·nofun
   refine aAd ⟨⟨_, rfl⟩, rfl, fun i q hi hq => ?_⟩
   by_cases e : i = k
   ·subst e; rwa [hp] at hq; exact c
   ·exact hno i q (by exact Nat.lt_of_le_of_ne (zn [i, k] (.h 1 (.a (.v 0) (.n 1)) (.a (.v 1) (.n 1)) .e) (.v 0) (.v 1) rfl hi) e) hq
 ·rintro _ _ ⟨⟨w, rfl⟩, rfl, hno⟩
  nofun
  have : at_.find? (fun p => decide (p.1 = y)) = none := by
   rw [List.find?_eq_none]
   intro p hp
   obtain ⟨i, hi⟩ := List.mem_iff_getElem?.mp hp
   have := hno i p (by rw [pairL, List.length_map]; exact (List.getElem?_eq_some_iff.mp hi).1) hi
   simp [this]
  rw [valA, this] at h
  exact aA3 h
noncomputable def blankC (x : Str) : Bool := [AV.str "\t", .str "\n", .str "\x0c", .str "\r", .str " "].any (isStr x)
theorem aFc {x : Str} {r : List AV} (h : Q (.bool (blankC x)) H) : Cd Γ 2 (.ref 300) [.tup (.str "char" :: .str x :: r)] H Q := by
 refine aRm fun P => ?_
 nofun
 exact aA3 h
theorem Nd.of {i : Int} {n : Node} (h : gN β.nodes i = some n) (hz : β.nodes.length ≤ 100000) : Nd β i n := by
 have h1 := aB3 h
 unfold gN at h
 rw [if_pos h1.1] at h
 exact ⟨h1.1, by exact zi [β.nodes.length] [i] (.h 1 (.u 0) (.n 100000) (.h 1 (.a (.w 0) (.n 1)) (.u 0) .e)) (.a (.w 0) (.n 1)) (.n 1000000) rfl (zcl hz) h1.2, h⟩
theorem Nd.gN {i : Int} {n : Node} (h : Nd β i n) : gN β.nodes i = some n := by unfold Mine.gN; rw [if_pos h.lo]; exact h.at_
def NK (N N' : List Node) : Prop := ∀ i n, gN N i = some n → ∃ n', gN N' i = some n' ∧ n'.name = n.name ∧ n'.attrs = n.attrs
structure OwnS (N : List Node) (own : List (Int × Int)) (L : List (List (Str × Str))) : Prop where
 len : own.length = L.length
 at_ : ∀ (k : Nat) (p : Int × Int) (a : List (Str × Str)), own[k]? = some p → L[k]? = some a → ∃ n o, gN N p.1 = some n ∧ n.name = oS "input" ∧ n.attrs = a ∧ gN N p.2 = some o ∧ o.name = oS "form"
theorem OwnS.keep {N N' : List Node} {own : List (Int × Int)} {L : List (List (Str × Str))} (h : OwnS N own L) (k : NK N N') : OwnS N' own L := ⟨h.len, fun j p a h1 h2 => by
 refine hZ fun GZ kZ => ?_
 obtain ⟨n, o, a1, a2, a3, a4, a5⟩ := h.at_ j p a h1 h2
 obtain ⟨n', b1, b2, b3⟩ := k _ _ a1
 obtain ⟨o', c1, c2, _⟩ := k _ _ a4
 refine kZ ?_
 exact ⟨n', o', b1, b2.trans a2, b3.trans a3, c1, c2.trans a5⟩⟩
theorem aIm {N N' : List Node} {form : Int} (h : form = -1 ∨ ∃ n, gN N form = some n ∧ n.name = oS "form") (k : NK N N') : form = -1 ∨ ∃ n, gN N' form = some n ∧ n.name = oS "form" := by
 rcases h with h | ⟨n, a, b⟩
 ·exact .inl h
 ·obtain ⟨n', c, d, _⟩ := k _ _ a
  exact .inr ⟨n', c, d.trans b⟩
structure DcP (N : List Node) (cont : List (Int × Int)) (items : List Int) (errs : List (Str × Str)) (own : List (Int × Int)) (pends : List (List Str)) (form : Int) (f : Fm) (R : List Fm) (L : List (List (Str × Str))) (m : Nat) : Prop where
 dn : DN N (f :: R)
 its : items = 1 :: ((f :: R).reverse.map (·.id))
 nxt : f.nxt = []
 len : N.length ≤ m
 desc : ∀ i n, gN N i = some n → n.parent = -1 ∨ (0 ≤ n.parent ∧ n.parent < i)
 kids : ∀ i n, gN N i = some n → n.kids.length ≤ m ∧ n.text.length ≤ m ∧ ∀ x ∈ n.kids, x < N.length
 el : errs.length ≤ m
 cl : cont.length ≤ m
 clt : ∀ p ∈ cont, p.1 < N.length
 cf : ∀ p ∈ cont, p.1 ∉ opens (f :: R)
 ol : own.length ≤ m
 olt : ∀ p ∈ own, p.1 < N.length
 pl : ∀ l ∈ pends, l.length ≤ m
 rl : R.length ≤ 10
 os : OwnS N own L
 fo : form = -1 ∨ ∃ n, gN N form = some n ∧ n.name = oS "form"
abbrev Dc (β : BS) (f : Fm) (R : List Fm) (L : List (List (Str × Str))) (m : Nat) : Prop := DcP β.nodes β.cont β.items β.errors β.owners β.pends β.form f R L m
section
variable {f : Fm} {R : List Fm} {L : List (List (Str × Str))} {form : Int} {m : Nat}
theorem DcP.wfp (D : Dc β f R L m) (hm : m ≤ 90000) : WFp β := ⟨fun i n hn => D.desc i n hn.gN, by have := D.len; omega⟩
theorem DcP.wfc (D : Dc β f R L m) (hm : m ≤ 90000) : WFc β := ⟨D.clt, by have := D.cl; omega⟩
theorem DcP.top (D : Dc β f R L m) : β.items.getLast? = some f.id := by
 have e : β.items = (1 :: R.reverse.map (·.id)) ++ [f.id] := by rw [D.its, List.reverse_cons, List.map_append]; rfl
 rw [e, List.getLast?_append]; rfl
theorem DcP.ilen (D : Dc β f R L m) : β.items.length ≤ 1000 := by rw [D.its]; have := D.rl; simp; omega
theorem DcP.node (D : Dc β f R L m) (hm : m ≤ 90000) {g : Fm} (hg : g ∈ f :: R) : ∃ n, Nd β g.id n ∧ n.kind = sElement ∧ n.space = sHtml ∧ n.name = g.nm ∧ n.parent = g.par ∧ n.kids = g.ids ++ g.nxt := by
 obtain ⟨n, e, a, b, c, _, p, k⟩ := (D.dn.fm g hg).node
 exact ⟨n, Nd.of e (by have := D.len; omega), a, b, c, p, k⟩
theorem DcP.tp (D : Dc β f R L m) (hm : m ≤ 90000) : ∃ n, Tp β f.id n ∧ n.name = f.nm := by
 obtain ⟨n, h, _, hs, hn, _⟩ := D.node hm (.head _)
 exact ⟨n, ⟨D.top, h, hs, by have := D.ilen; omega⟩, hn⟩
theorem DcP.notCont (D : Dc β f R L m) {x : Int} (hx : x ∈ opens (f :: R)) : (β.cont.any fun p => decide (p.1 = x)) = false := by
 rw [List.any_eq_false]
 intro p hp
 have := D.cf p hp
 simp only [decide_eq_true_eq]
 rintro rfl; exact this hx
theorem DcP.isOpen (D : Dc β f R L m) (hm : m ≤ 90000) (ht : ∀ g ∈ f :: R, g.nm ≠ oS "template") : ∀ v ∈ β.items, ∃ n, Nd β v n ∧ n.name ≠ oS "template" := by
 intro v hv
 rw [D.its] at hv
 rcases List.mem_cons.mp hv with rfl | hv
 ·obtain ⟨n, e, _, _, hn⟩ := D.dn.html
  exact ⟨n, Nd.of e (by have := D.len; omega), by rw [hn]; decide +kernel⟩
 ·obtain ⟨g, hg, rfl⟩ := List.mem_map.mp hv
  have hg' := List.mem_reverse.mp hg
  obtain ⟨n, h, _, _, hn, _⟩ := D.node hm hg'
  exact ⟨n, h, by rw [hn]; exact ht g hg'⟩
theorem DcP.here (D : Dc β f R L m) (hm : m ≤ 90000) (hf : β.foster = false ∨ isPart f.nm = false) : ∃ n, gN β.nodes f.id = some n ∧ n.kids = f.ids ∧ Spot β f.id (-1) n f.ids.length := by
 obtain ⟨n, h, hk, hs, hn, hp, hkk⟩ := D.node hm (.head _)
 rw [D.nxt, List.append_nil] at hkk
 have hl := D.len
 refine ⟨n, h.gN, hkk, D.wfp hm, .here D.top h (by rw [hn]; exact hf) (D.notCont aAx) (by have := D.ilen; omega), ⟨h, .inl ⟨rfl, by rw [hkk]⟩, ?_⟩, by have := h.lt; exact zi [β.nodes.length] [] .e (.a (.g (.n 1)) (.n 1)) (.u 0) rfl, by rw [hk]; decide +kernel, by omega⟩
 have := (D.kids _ _ h.gN).1; omega
structure Fos (f : Fm) (R0 : List Fm) (pre : List Fm) (tb bd : Fm) : Prop where
 eq : f :: R0 = pre ++ [tb]
 tn : tb.nm = oS "table"
 tp : tb.par = bd.id
 bn : bd.nxt = [tb.id]
 up : ∀ g ∈ pre, g.nm ≠ oS "table" ∧ g.nm ≠ oS "template"
theorem DcP.out {R0 : List Fm} {pre : List Fm} {tb bd : Fm} (D : Dc β f (R0 ++ [bd]) L m) (hm : m ≤ 90000) (F : Fos f R0 pre tb bd) (hf : β.foster = true) (hp : isPart f.nm = true) :
  ∃ n, gN β.nodes bd.id = some n ∧ n.kids = bd.ids ++ [tb.id] ∧ Spot β bd.id tb.id n bd.ids.length ∧ ∃ nb, Nd β tb.id nb ∧ nb.parent = bd.id := by
 have hl := D.len
 have eq : f :: (R0 ++ [bd]) = pre ++ [tb, bd] := by
  have := congrArg (·++ [bd]) F.eq
  simpa using this
 have mt : tb ∈ f :: (R0 ++ [bd]) := by rw [eq]; simp
 have mb : bd ∈ f :: (R0 ++ [bd]) := by rw [eq]; simp
 refine hZ fun GZ kZ => ?_
 obtain ⟨n, h, hk, hs, hn, hpp, hkk⟩ := D.node hm (.head _)
 obtain ⟨nt, ht, tk, ts, tn, tpp, tkk⟩ := D.node hm mt
 obtain ⟨nb, hb, bk, bs, bn, bpp, bkk⟩ := D.node hm mb
 rw [F.bn] at bkk
 have big := (D.dn.fm bd mb).big
 have par : nt.parent = bd.id := tpp.trans F.tp
 have its : β.items = 1 :: bd.id :: tb.id :: (pre.reverse.map (·.id)) := by rw [D.its, eq]; simp
 have fos : FosAt β tb.id nt 2 := ⟨ht, by rw [its]; rfl, by omega, ts, by rw [tn, F.tn], by rw [par]; exact fun e => (zff (zco (zi [] [bd.id] (.h 1 (.a (.n 1) (.n 1)) (.w 0) (.h 1 (.w 0) (.g (.n 1)) .e)) (.n 1) (.n 0) rfl big (Int.le_of_eq e)))), fun k v hk hv => by
  rw [its] at hv
  have : (pre.reverse.map (·.id))[k - 3]? = some v := by
   obtain ⟨j, rfl⟩ : ∃ j, k = j + 3 := ⟨k - 3, by exact oz7 hk⟩
   simpa using hv
  obtain ⟨g, hg, rfl⟩ := List.mem_map.mp (List.mem_of_getElem? this)
  have hg' := List.mem_reverse.mp hg
  obtain ⟨q, z, _, _, zn, _⟩ := D.node hm (g := g) (by rw [eq]; exact List.mem_append_left _ hg')
  exact ⟨q, z, by rw [zn]; exact F.up g hg'⟩, by have := D.ilen; omega⟩
 have to : PlaceTo β nt.parent tb.id := .out D.top h hf hs (by rw [hn]; exact hp) fos (by rw [par]; exact D.notCont (.tail _ (.tail _ (List.mem_map.mpr ⟨bd, mb, rfl⟩))))
 rw [par] at to
 have nd := (D.dn.fm bd mb).nd
 rw [F.bn] at nd
 refine kZ ?_
 refine ⟨nb, hb.gN, bkk, ⟨D.wfp hm, to, ⟨hb, .inr ⟨by have := ht.lo; omega, by rw [bkk]; simp, fun k hk e => ?_⟩, ?_⟩, by have := ht.lt; have := ht.lo; omega, by rw [bk]; decide +kernel, by omega⟩, nt, ht, par⟩
 ·rw [bkk, List.getElem?_append_left hk] at e
  have := (List.nodup_append.mp nd).2.2 _ (List.mem_of_getElem? e) tb.id (by simp)
  exact this rfl
 ·have := (D.kids _ _ hb.gN).1; omega
end
section
variable {N : List Node} {cont own : List (Int × Int)} {items : List Int} {errs : List (Str × Str)} {pends : List (List Str)} {f : Fm} {R : List Fm} {L : List (List (Str × Str))} {form : Int} {m : Nat}
structure FrOk (n : Nat) (fr : List Node) (cx : List (Int × Int)) : Prop where
 len : fr.length ≤ 1
 all : ∀ z ∈ fr, z.parent = -1 ∧ z.kids = [] ∧ z.text.length ≤ 2
 cl : cx.length ≤ 1
 cx : ∀ q ∈ cx, q.1 = (n : Int)
theorem FrOk.nil {n : Nat} : FrOk n [] [] := ⟨by simp, by simp, by simp, by simp⟩
theorem Fr.ok {nm : Str} {n : Nat} {fr : List Node} {cx : List (Int × Int)} (h : Fr nm n fr cx) : FrOk n fr cx := by
 cases h with
 | plain _ => exact .nil
 | tmpl _ => exact ⟨by simp, fun z hz => by rw [List.mem_singleton.mp hz]; exact ⟨rfl, rfl, by decide +kernel⟩, by simp, fun q hq => by rw [List.mem_singleton.mp hq]⟩
theorem aL7 {p : Int} {np new : Node} {l : List Int} {fr : List Node} (hp : gN N p = some np) {i : Int} {n : Node} (h : gN (insN N p np l new fr) i = some n) :
  (i = p ∧ n = { np with kids := l }) ∨ (i ≠ p ∧ gN N i = some n) ∨ (i = N.length ∧ n = { new with parent := p }) ∨ (n ∈ fr ∧ (N.length : Int) < i) := by
 have hq := aB3 hp
 by_cases q : i = p
 ·subst q
  rw [aH1 hp] at h
  exact .inl ⟨rfl, (Option.some.inj h).symm⟩
 ·refine .inr ?_
  unfold gN at h hp ⊢
  rw [if_pos hq.1] at hp
  split at h
  ·rename_i h0
   rw [if_pos h0]
   unfold insN at h
   rw [List.getElem?_append] at h
   split at h
   ·rename_i hl
    rw [aAz hp, if_neg (by exact oz8 hq q h0)] at h
    exact .inl ⟨q, h⟩
   ·rename_i hl
    rw [List.length_set] at h hl
    refine .inr ?_
    cases hk : i.toNat - N.length with
    | zero => rw [hk] at h; exact .inl ⟨by exact oz9 h0 hl hk, (Option.some.inj h).symm⟩
    | succ k => rw [hk] at h; exact .inr ⟨List.mem_of_getElem? h, by exact oz10 hl hk⟩
  ·cases h
theorem NK.ins {p : Int} {np new : Node} {l : List Int} {fr : List Node} (hp : gN N p = some np) : NK N (insN N p np l new fr) := fun i n h => by
 by_cases q : i = p
 ·subst q
  rwa [hp] at h
  exact ⟨_, aH1 hp, rfl, rfl⟩
 ·exact ⟨n, aH2 hp _ _ h q, rfl, rfl⟩
theorem DcP.ins (D : DcP N cont items errs own pends form f R L m) {p : Int} {np new : Node} {l : List Int} {fr : List Node} {cx : List (Int × Int)} (hp : gN N p = some np) (hl : l.length ≤ np.kids.length + 1 ∧ ∀ x ∈ l, x ≤ N.length) (hk : new.kids = []) (ht : new.text.length ≤ 2) (hf : FrOk N.length fr cx)
  {f' : Fm} {R' : List Fm} {items' : List Int} (dn : DN (insN N p np l new fr) (f' :: R')) (its : items' = 1 :: ((f' :: R').reverse.map (·.id))) (nxt : f'.nxt = []) (cf : ∀ q ∈ cont ++ cx, q.1 ∉ opens (f' :: R')) (rl : R'.length ≤ 10) :
  DcP (insN N p np l new fr) (cont ++ cx) items' errs own pends form f' R' L (m + 2) := by
 have hq := aB3 hp
 have L : (insN N p np l new fr).length = N.length + 1 + fr.length := by unfold insN; simp; exact Nat.le_antisymm (zn [N.length, fr.length] .e (.a (.v 0) (.a (.v 1) (.n 1))) (.a (.a (.v 0) (.n 1)) (.v 1)) rfl) (zn [N.length, fr.length] .e (.a (.a (.v 0) (.n 1)) (.v 1)) (.a (.v 0) (.a (.v 1) (.n 1))) rfl)
 have := D.len
 have := hf.len
 refine ⟨dn, its, nxt, by exact oz12 L ‹_› this, fun i n h => ?_, fun i n h => ?_, by have := D.el; omega, ?_, fun q hq' => ?_, cf, by have := D.ol; omega, fun q hq' => by have := D.olt q hq'; exact oz13 L this, fun l hl => by have := D.pl l hl; omega, rl, D.os.keep (NK.ins hp), aIm D.fo (NK.ins hp)⟩
 ·rcases aL7 hp h with ⟨rfl, rfl⟩ | ⟨_, h⟩ | ⟨rfl, rfl⟩ | ⟨h, _⟩
  ·exact D.desc _ np hp
  ·exact D.desc _ _ h
  ·exact .inr ⟨hq.1, hq.2⟩
  ·exact .inl (hf.all n h).1
 ·rcases aL7 hp h with ⟨rfl, rfl⟩ | ⟨_, h⟩ | ⟨rfl, rfl⟩ | ⟨h, _⟩
  ·have := D.kids _ _ hp
   exact ⟨by show l.length ≤ _; exact oz14 hl this, by show np.text.length ≤ _; omega, fun x hx => by have := hl.2 x hx; exact oz15 L this⟩
  ·have := D.kids _ _ h
   exact ⟨by omega, by omega, fun x hx => by have := this.2.2 x hx; exact oz13 L this⟩
  ·exact ⟨by show new.kids.length ≤ _; rw [hk]; simp, by show new.text.length ≤ _; omega, fun x hx => by
    have : x ∈ new.kids := hx
    rwa [hk] at this⟩
  ·have := hf.all n h
   exact ⟨by rw [this.2.1]; simp, by exact oz16 this, fun x hx => by rwa [this.2.1] at hx⟩
 ·rw [List.length_append]; have := D.cl; have := hf.cl; exact oz17 ‹_› this
 ·rcases List.mem_append.mp hq' with h | h
  ·have := D.clt q h; exact oz13 L this
  ·have := hf.cx q h; exact oz18 L this
theorem aZz (D : DN N (f :: R)) : ∀ x ∈ opens (f :: R), x < N.length := fun x hm => by
 rcases List.mem_cons.mp hm with q | hm
 ·obtain ⟨m, z, _⟩ := D.doc; have := (aB3 z).2; exact oz19 q this
 ·rcases List.mem_cons.mp hm with q | hm
  ·obtain ⟨m, z, _⟩ := D.html; have := (aB3 z).2; exact oz20 q this
  ·obtain ⟨f, hf, q⟩ := List.mem_map.mp hm
   obtain ⟨m, z, _⟩ := (D.fm f hf).node
   have := (aB3 z).2; exact oz21 q this
theorem DcP.cfx (D : DcP N cont items errs own pends form f R L m) {fr : List Node} {cx : List (Int × Int)} (hf : FrOk N.length fr cx) : ∀ q ∈ cont ++ cx, q.1 ∉ opens (f :: R) := fun q hq => by
 rcases List.mem_append.mp hq with h | h
 ·exact D.cf q h
 ·rw [hf.cx q h]
  intro hm
  have := aZz D.dn _ hm; exact oz22 this
noncomputable abbrev Fm.add (g : Fm) (n : Nat) (t : Tr) : Fm := { g with ids := g.ids ++ [(n : Int)], ts := g.ts ++ [t] }
abbrev LeafOf (new : Node) (t : Tr) : Prop := (t = .lf new.kind new.text ∧ (new.kind = sText ∨ new.kind = sComment)) ∨ (t = .el new.name new.attrs [] ∧ new.kind = sElement)
theorem DcP.leaf (D : DcP N cont items errs own pends form f R L m) {np new : Node} {fr : List Node} {cx : List (Int × Int)} (hp : gN N f.id = some np) (hk : new.kids = []) (ht : new.text.length ≤ 2) (hf : FrOk N.length fr cx) {t : Tr} (hl : LeafOf new t) :
  DcP (insN N f.id np (f.ids ++ (N.length : Int) :: f.nxt) new fr) (cont ++ cx) items errs own pends form (f.add N.length t) R L (m + 2) := by
 have ok := D.dn.fm f (.head _)
 refine hZ fun GZ kZ => ?_
 obtain ⟨n, e, _, _, _, _, _, kk⟩ := ok.node
 rwa [hp] at e
 have nx : ∀ x ∈ f.nxt, x < N.length := by rw [D.nxt]; simp
 refine kZ ?_
 refine D.ins hp ⟨by rw [kk]; simp; omega, fun x hx => ?_⟩ hk ht hf (D.dn.leaf hp hk hl nx) (by rw [D.its]; simp) D.nxt (D.cfx hf) D.rl
 rcases List.mem_append.mp hx with h | h
 ·have := ok.lt x h; exact oz23 this
 ·rcases List.mem_cons.mp h with rfl | h
  ·omega
  ·have := nx x h; exact oz23 this
theorem DcP.leafOut {R0 : List Fm} {bd : Fm} (D : DcP N cont items errs own pends form f (R0 ++ [bd]) L m) {np new : Node} {fr : List Node} {cx : List (Int × Int)} (hp : gN N bd.id = some np) (hk : new.kids = []) (ht : new.text.length ≤ 2) (hf : FrOk N.length fr cx) {t : Tr} (hl : LeafOf new t) :
  DcP (insN N bd.id np (bd.ids ++ (N.length : Int) :: bd.nxt) new fr) (cont ++ cx) items errs own pends form f (R0 ++ [bd.add N.length t]) L (m + 2) := by
 have mb : bd ∈ f :: (R0 ++ [bd]) := by simp
 have ok := D.dn.fm bd mb
 refine hZ fun GZ kZ => ?_
 obtain ⟨n, e, _, _, _, _, _, kk⟩ := ok.node
 rwa [hp] at e
 have nx : ∀ x ∈ bd.nxt, x < N.length := fun x hx => (D.kids _ _ hp).2.2 x (by rw [kk]; exact List.mem_append_right _ hx)
 have p1 : (f :: (R0 ++ [bd])).Perm (bd :: f :: R0) := by
  have := List.perm_append_comm (l₁ := f :: R0) (l₂ := [bd])
  simpa using this
 have p2 : (bd.add N.length t :: f :: R0).Perm (f :: (R0 ++ [bd.add N.length t])) := by
  have := List.perm_append_comm (l₁ := [bd.add N.length t]) (l₂ := f :: R0)
  simpa using this
 have cf := D.cfx hf
 refine kZ ?_
 refine D.ins hp ⟨by rw [kk]; simp; omega, fun x hx => ?_⟩ hk ht hf (((D.dn.perm p1).leaf hp hk hl nx).perm p2) (by rw [D.its]; simp) D.nxt (fun q hq hm => cf q hq ?_) (by have := D.rl; simpa using this)
 ·rcases List.mem_append.mp hx with h | h
  ·have := ok.lt x h; exact oz23 this
  ·rcases List.mem_cons.mp h with rfl | h
   ·omega
   ·have := nx x h; exact oz23 this
 ·simpa [opens] using hm
theorem DcP.text (D : DcP N cont items errs own pends form f R L m) {y : Int} {ny : Node} {tx : Str} (hy : gN N y = some ny) (hx : tx.length ≤ m + 2) {f' : Fm} {R' : List Fm} (dn : DN (N.set y.toNat { ny with text := tx }) (f' :: R')) (io : opens (f' :: R') = opens (f :: R)) (its : items = 1 :: ((f' :: R').reverse.map (·.id))) (nxt : f'.nxt = []) (rl : R'.length ≤ 10) :
  DcP (N.set y.toNat { ny with text := tx }) cont items errs own pends form f' R' L (m + 2) := by
 have h1 := aB3 hy
 have hy' : N[y.toNat]? = some ny := by unfold gN at hy; rw [if_pos h1.1] at hy; exact hy
 have all : ∀ i n, gN (N.set y.toNat { ny with text := tx }) i = some n → (i = y ∧ n = { ny with text := tx }) ∨ gN N i = some n := fun i n h => by
  have h2 := aB3 h
  rw [List.length_set] at h2
  unfold gN at h ⊢
  rw [if_pos h2.1] at h ⊢
  rw [aAz hy'] at h
  split at h
  ·exact .inl ⟨by omega, (Option.some.inj h).symm⟩
  ·exact .inr h
 have nk : NK N (N.set y.toNat { ny with text := tx }) := fun i n h => by
  have h2 := aB3 h
  by_cases q : i = y
  ·subst q
   rwa [hy] at h
   refine ⟨{ ny with text := tx }, ?_, rfl, rfl⟩
   unfold gN; rw [if_pos h1.1, aAz hy', if_pos rfl]
  ·refine ⟨n, ?_, rfl, rfl⟩
   unfold gN at h ⊢
   rw [if_pos h2.1] at h ⊢
   rw [aAz hy', if_neg (by exact oz24 h1 h2 q)]; exact h
 refine ⟨dn, its, nxt, by rw [List.length_set]; have := D.len; omega, fun i n h => ?_, fun i n h => ?_, by have := D.el; omega, by have := D.cl; omega, fun q hq => by rw [List.length_set]; exact D.clt q hq, by rw [io]; exact D.cf, by have := D.ol; omega, fun q hq => by rw [List.length_set]; exact D.olt q hq, fun l hl => by have := D.pl l hl; omega, rl, D.os.keep nk, aIm D.fo nk⟩
 ·rcases all i n h with ⟨rfl, rfl⟩ | h
  ·exact D.desc _ ny hy
  ·exact D.desc _ _ h
 ·rw [List.length_set]
  rcases all i n h with ⟨rfl, rfl⟩ | h
  ·have := D.kids _ _ hy
   exact ⟨by show ny.kids.length ≤ _; omega, hx, this.2.2⟩
  ·have := D.kids _ _ h
   exact ⟨by omega, by omega, this.2.2⟩
theorem aOz {p : Int} {is : List Int} {ts : List Tr} (h : FitsL N p is ts) : (is = [] ∧ ts = []) ∨ ∃ js y us t, is = js ++ [y] ∧ ts = us ++ [t] ∧ Fits N p y t := by
 rcases List.eq_nil_or_concat is with rfl | ⟨js, y, rfl⟩
 ·cases h; exact .inl ⟨rfl, rfl⟩
 ·rw [List.concat_eq_append] at h ⊢
  obtain ⟨us, vs, rfl, h1, h2⟩ := h.split
  cases h2 with
  | cons a h2 => cases h2; exact .inr ⟨js, y, us, _, rfl, rfl, a⟩
end
section
variable {f : Fm} {R : List Fm} {L : List (List (Str × Str))} {form : Int} {m : Nat}
theorem aKm {s x : Str} : (s ++ x).length = s.length + x.length := by
 show (s.cps ++ x.cps).size = _; rw [Array.size_append]; rfl
noncomputable def putT (ts : List Tr) (x : Str) : List Tr := match ts.getLast? with
 | some (.lf k s) => if k = sText then ts.dropLast ++ [.lf k (s ++ x)] else ts ++ [.lf sText x]
 | _ => ts ++ [.lf sText x]
theorem aBr {us : List Tr} {s x : Str} : putT (us ++ [.lf sText s]) x = us ++ [.lf sText (s ++ x)] := by
 unfold putT
 rw [List.getLast?_append]
 simp
theorem aCm {ts : List Tr} {x : Str} (h : ∀ us s, ts ≠ us ++ [.lf sText s]) : putT ts x = ts ++ [.lf sText x] := by
 unfold putT
 split
 ·rename_i k s e
  split
  ·rename_i q
   subst q
   rcases List.eq_nil_or_concat ts with rfl | ⟨us, t, rfl⟩
   ·cases e
   ·rw [List.concat_eq_append, List.getLast?_append] at e
    simp at e
    subst e
    exact absurd (List.concat_eq_append) (h us s)
  ·rfl
 ·rfl
theorem aLj {l r : List Int} {x : Int} : putK (l ++ r) l.length x = l ++ x :: r := by
 unfold putK
 rw [List.take_left, List.drop_left]
theorem aEm {p : Int} {np new : Node} {l r : List Int} (h : np.kids = l ++ r) : insG β p np l.length new [] [] β.contE = { β with nodes := insN β.nodes p np (l ++ (β.nodes.length : Int) :: r) new [] } := by
 unfold insG insN
 rw [h, aLj, List.append_nil]
theorem aQ4 {l r : List Int} {y : Int} : aheadK ((l ++ [y]) ++ r) (l ++ [y]).length = y := by
 unfold aheadK
 rw [if_neg (by simp)]
 simp
theorem aFu {g : Fm} {S : List Int} {np : Node} {bf : Int} {x : Str} (s : Spot β g.id bf np g.ids.length) (hk : np.kids = g.ids ++ g.nxt) (ok : FmOk β.nodes S g) (hpar : bf ≠ -1 → ∃ nb, Nd β bf nb ∧ nb.parent = g.id) (hx : x.length ≤ 2) (ht : ∀ i n, gN β.nodes i = some n → n.text.length ≤ 90000)
  (h1 : ∀ is us y s ny, g.ids = is ++ [y] → g.ts = us ++ [.lf sText s] → gN β.nodes y = some ny → ny.text = s → ny.kind = sText → Q .none (BH X (setN β y.toNat { ny with text := s ++ x }) ν))
  (h2 : (∀ us s, g.ts ≠ us ++ [.lf sText s]) → ∀ ν', Q .none (BH X (insG β g.id np g.ids.length (txtN x) [] [] β.contE) ν')) : Cd Γ 4 (.ref 92) [.ref .bld, .str x] (BH X β ν) Q := by
 have hr := s.room
 rcases aOz ok.fits with ⟨e1, e2⟩ | ⟨js, y, us, t, e1, e2, a⟩
 ·refine aCx s (.inl ?_) hpar (h2 fun us s q => ?_)
  ·rw [e1]; rfl
  ·rw [e2] at q; simp at q
 ·have ah : aheadK np.kids g.ids.length = y := by rw [hk, e1]; exact aQ4
  cases a with
  | @lf _ _ n q1 q2 q3 =>
   by_cases c : n.kind = sText
   ·refine aIb s (by rw [ah]; exact Nd.of q1 (by omega)) c hpar (by have := ht _ _ q1; exact zn [n.text.length, x.length] (.h 1 (.v 1) (.n 2) (.h 1 (.v 0) (.n 90000) .e)) (.a (.v 0) (.v 1)) (.n 1000000) rfl hx this) ?_
    rw [ah]
    exact h1 js us y n.text n e1 (by rw [e2, c]) q1 rfl c
   ·refine aCx s (.inr ⟨n, by rw [ah]; exact Nd.of q1 (by omega), c⟩) hpar (h2 fun us' s' q => ?_)
    rw [e2] at q
    have := (List.append_inj' q rfl).2
    simp at this
    exact c this.1
  | @el _ _ n ts q1 q2 q3 q4 =>
   refine aCx s (.inr ⟨n, by rw [ah]; exact Nd.of q1 (by omega), by rw [q3]; decide +kernel⟩) hpar (h2 fun us' s' q => ?_)
   rw [e2] at q
   have := (List.append_inj' q rfl).2
   simp at this
theorem aG6 {y : Int} {n : Node} : setN β y.toNat n = { β with nodes := β.nodes.set y.toNat n } := rfl
theorem aCa {x : Str} (D : Dc β f R L m) (hm : m ≤ 80000) (hf : β.foster = false ∨ isPart f.nm = false) (hx : x.length ≤ 2)
  (h : ∀ N' ids' ν', Dc { β with nodes := N' } { f with ids := ids', ts := putT f.ts x } R L (m + 2) → Q .none (BH X { β with nodes := N' } ν')) : Cd Γ 4 (.ref 92) [.ref .bld, .str x] (BH X β ν) Q := by
 obtain ⟨n, hn, hk, s⟩ := D.here (by omega) hf
 have ok := D.dn.fm f (.head _)
 refine aFu s (by rw [hk, D.nxt, List.append_nil]) ok (fun q => absurd rfl q) hx (fun i n hi => by have := (D.kids i n hi).2.1; omega) (fun is us y s ny e1 e2 hy ht hk2 => ?_) fun hno ν' => ?_
 ·rw [aG6]
  refine h _ f.ids ν ?_
  rw [e2, aBr]
  refine D.text hy (by have := (D.kids _ _ hy).2.1; rw [aKm]; rw [ht] at this; exact oz26 hx this) (D.dn.grow e1 e2 hy ht hk2) rfl (by rw [D.its]; simp) D.nxt D.rl
 ·rw [aEm (r := f.nxt) (by rw [hk, D.nxt, List.append_nil])]
  refine h _ (f.ids ++ [(β.nodes.length : Int)]) ν' ?_
  rw [aCm hno]
  have := D.leaf (cx := []) hn (new := txtN x) rfl hx FrOk.nil (t := .lf sText x) (.inl ⟨rfl, .inl rfl⟩)
  rw [List.append_nil] at this
  exact this
theorem aJx {x : Str} {R0 pre : List Fm} {tb bd : Fm} (D : Dc β f (R0 ++ [bd]) L m) (hm : m ≤ 80000) (F : Fos f R0 pre tb bd) (hf : β.foster = true) (hp : isPart f.nm = true) (hx : x.length ≤ 2)
  (h : ∀ N' ids' ν', Dc { β with nodes := N' } f (R0 ++ [{ bd with ids := ids', ts := putT bd.ts x }]) L (m + 2) → Q .none (BH X { β with nodes := N' } ν')) : Cd Γ 4 (.ref 92) [.ref .bld, .str x] (BH X β ν) Q := by
 obtain ⟨n, hn, hk, s, nb, hnb, hpb⟩ := D.out (by omega) F hf hp
 have mb : bd ∈ f :: (R0 ++ [bd]) := by simp
 have ok := D.dn.fm bd mb
 have hk' : n.kids = bd.ids ++ bd.nxt := by rw [hk, F.bn]
 have p1 : (f :: (R0 ++ [bd])).Perm (bd :: f :: R0) := by
  have := List.perm_append_comm (l₁ := f :: R0) (l₂ := [bd])
  simpa using this
 refine aFu s hk' ok (fun _ => ⟨nb, hnb, hpb⟩) hx (fun i n hi => by have := (D.kids i n hi).2.1; omega) (fun is us y s ny e1 e2 hy ht hk2 => ?_) fun hno ν' => ?_
 ·rw [aG6]
  refine h _ bd.ids ν ?_
  rw [e2, aBr]
  have p2 : ({ bd with ts := us ++ [.lf sText (s ++ x)] } :: f :: R0).Perm (f :: (R0 ++ [{ bd with ts := us ++ [.lf sText (s ++ x)] }])) := by
   have := List.perm_append_comm (l₁ := [{ bd with ts := us ++ [.lf sText (s ++ x)] }]) (l₂ := f :: R0)
   simpa using this
  refine D.text hy (by have := (D.kids _ _ hy).2.1; rw [aKm]; rw [ht] at this; exact oz26 hx this) (((D.dn.perm p1).grow e1 e2 hy ht hk2).perm p2) (by simp [opens]) (by rw [D.its]; simp) D.nxt (by have := D.rl; simpa using this)
 ·rw [aEm hk']
  refine h _ (bd.ids ++ [(β.nodes.length : Int)]) ν' ?_
  rw [aCm hno]
  have := D.leafOut (cx := []) hn (new := txtN x) rfl hx FrOk.nil (t := .lf sText x) (.inl ⟨rfl, .inl rfl⟩)
  rw [List.append_nil] at this
  exact this
theorem aEe {x : Str} (D : Dc β f R L m) (hm : m ≤ 80000) (hf : β.foster = false ∨ isPart f.nm = false) (hx : x.length ≤ 2)
  (h : ∀ N' n' ν', Dc { β with nodes := N' } (f.add n' (.lf sComment x)) R L (m + 2) → Q .none (BH X { β with nodes := N' } ν')) : Cd Γ 4 (.ref 100) [.ref .bld, .str x] (BH X β ν) Q := by
 obtain ⟨n, hn, hk, s⟩ := D.here (by omega) hf
 refine aFa s fun ν' => ?_
 rw [aEm (r := f.nxt) (by rw [hk, D.nxt, List.append_nil])]
 refine h _ β.nodes.length ν' ?_
 have := D.leaf (cx := []) hn (new := comN x) rfl hx FrOk.nil (t := .lf sComment x) (.inl ⟨rfl, .inr rfl⟩)
 rw [List.append_nil] at this
 exact this
theorem DcP.tok {nm : Str} {at_ : List (Str × Str)} (D : Dc β f R L m) (hm : m ≤ 80000) (ht : ∀ g ∈ f :: R, g.nm ≠ oS "template") (hn : nm = oS "input" ∨ owns.any (isStr nm) = false) (ha : ∀ q ∈ at_, q.1 ≠ oS "form") (hl : at_.length ≤ 100000) : TokOk β nm at_ :=
 ⟨D.wfc (by omega), hl, by have := D.ilen; omega, hn, ha, D.isOpen (by omega) ht, D.olt, by have := D.ol; omega⟩
end
section
variable {N : List Node} {cont own : List (Int × Int)} {items : List Int} {errs : List (Str × Str)} {pends : List (List Str)} {form : Int} {f : Fm} {R : List Fm} {L : List (List (Str × Str))} {m : Nat}
theorem DcP.mono (D : DcP N cont items errs own pends form f R L m) {m' : Nat} (h : m ≤ m') : DcP N cont items errs own pends form f R L m' :=
 ⟨D.dn, D.its, D.nxt, by have := D.len; omega, D.desc, fun i n hi => let ⟨a, b, c⟩ := D.kids i n hi; ⟨by omega, by omega, c⟩, by have := D.el; omega, by have := D.cl; omega, D.clt, D.cf, by have := D.ol; omega, D.olt, fun l hl => by have := D.pl l hl; omega, D.rl, D.os, D.fo⟩
theorem DcP.err (D : DcP N cont items errs own pends form f R L m) {e : Str × Str} : DcP N cont items (errs ++ [e]) own pends form f R L (m + 1) :=
 let D' := D.mono (Nat.le_succ m); ⟨D'.dn, D'.its, D'.nxt, D'.len, D'.desc, D'.kids, by rw [List.length_append]; have := D.el; simp; omega, D'.cl, D'.clt, D'.cf, D'.ol, D'.olt, D'.pl, D'.rl, D'.os, D'.fo⟩
theorem DcP.pendNew (D : DcP N cont items errs own pends form f R L m) : DcP N cont items errs own (pends ++ [[]]) form f R L m :=
 ⟨D.dn, D.its, D.nxt, D.len, D.desc, D.kids, D.el, D.cl, D.clt, D.cf, D.ol, D.olt, fun l hl => by
  rcases List.mem_append.mp hl with h | h
  ·exact D.pl l h
  ·rw [List.mem_singleton.mp h]; simp, D.rl, D.os, D.fo⟩
theorem DcP.pendSet (D : DcP N cont items errs own pends form f R L m) {k : Nat} {l : List Str} (h : l.length ≤ m + 1) : DcP N cont items errs own (pends.set k l) form f R L (m + 1) :=
 let D' := D.mono (Nat.le_succ m); ⟨D'.dn, D'.its, D'.nxt, D'.len, D'.desc, D'.kids, D'.el, D'.cl, D'.clt, D'.cf, D'.ol, D'.olt, fun q hq => by
  rcases List.mem_or_eq_of_mem_set hq with z | z
  ·exact D'.pl q z
  ·rw [z]; exact h, D'.rl, D'.os, D'.fo⟩
noncomputable def ownL (form : Int) (nm : Str) (at_ : List (Str × Str)) : List (List (Str × Str)) := if form ≠ -1 ∧ nm = oS "input" then [at_] else []
noncomputable def ownI (own : List (Int × Int)) (form n : Int) (nm : Str) : List (Int × Int) := if form ≠ -1 ∧ nm = oS "input" then own ++ [(n, form)] else own
theorem DcP.ownN (D : DcP N cont items errs own pends form f R L m) {n : Int} {nd : Node} (h : gN N n = some nd) : DcP N cont items errs (ownI own form n nd.name) pends form f R (L ++ ownL form nd.name nd.attrs) (m + 1) := by
 have D' := D.mono (Nat.le_succ m)
 unfold ownI ownL
 split
 ·rename_i c
  refine ⟨D'.dn, D'.its, D'.nxt, D'.len, D'.desc, D'.kids, D'.el, D'.cl, D'.clt, D'.cf, ?_, ?_, D'.pl, D'.rl, ⟨?_, ?_⟩, D'.fo⟩
  ·have := D.ol; simp; omega
  ·intro p hp
   rcases List.mem_append.mp hp with z | z
   ·exact D.olt p z
   ·rw [List.mem_singleton.mp z]; exact (aB3 h).2
  ·simp [D.os.len]
  ·intro k p a h1 h2
   have ll := D.os.len
   rw [List.getElem?_append] at h1 h2
   split at h1
   ·rename_i hk
    rw [if_pos (by exact zn [k, own.length, L.length] (.h 1 (.v 1) (.v 2) (.h 1 (.a (.v 0) (.n 1)) (.v 1) .e)) (.a (.v 0) (.n 1)) (.v 2) rfl (Nat.le_of_eq ll) hk)] at h2
    exact D.os.at_ k p a h1 h2
   ·rename_i hk
    rw [if_neg (by exact fun e => (zff (zn [k, L.length, own.length] (.h 1 (.v 1) (.v 2) (.h 1 (.v 2) (.v 0) (.h 1 (.a (.v 0) (.n 1)) (.v 1) .e))) (.n 1) (.n 0) rfl (Nat.le_of_eq ll.symm) (zNt hk) e)))] at h2
    have hk0 : k - own.length = 0 := by
     have := (List.getElem?_eq_some_iff.mp h1).1
     simp at this; omega
    rw [hk0] at h1
    rw [show k - L.length = 0 by exact oz29 ll hk hk0] at h2
    cases h1; cases h2
    rcases D.fo with q | ⟨o, q1, q2⟩
    ·exact absurd q c.1
    ·exact ⟨nd, o, h, c.2, rfl, q1, q2⟩
 ·rw [List.append_nil]; exact D'
theorem aT5 {n : Int} {nm : Str} {e : Nat} : ∃ oe, asB β n nm e = { β with owners := ownI β.owners β.form n nm, ownE := oe } := by
 unfold asB ownI
 split
 ·exact ⟨e, rfl⟩
 ·exact ⟨β.ownE, rfl⟩
theorem aH0 {p : Int} {np : Node} {nm : Str} {at_ : List (Str × Str)} {fr : List Node} {cx : List (Int × Int)} {e : Nat} {l r : List Int} (h : np.kids = l ++ r) :
  insE β p np l.length nm at_ fr cx e = { β with nodes := insN β.nodes p np (l ++ (β.nodes.length : Int) :: r) (elmN nm at_) fr, cont := β.cont ++ cx, contE := e, items := β.items ++ [(β.nodes.length : Int)] } := by
 unfold insE insG insN
 rw [h, aLj]
structure LfTok (f : Fm) (R : List Fm) (nm : Str) (at_ : List (Str × Str)) : Prop where
 t : ∀ g ∈ f :: R, g.nm ≠ oS "template"
 n : nm = oS "input" ∨ owns.any (isStr nm) = false
 a : ∀ q ∈ at_, q.1 ≠ oS "form"
 l : at_.length ≤ 100000
theorem aL4 {nm : Str} {at_ : List (Str × Str)} : LeafOf (elmN nm at_) (.el nm at_ []) := .inr ⟨rfl, rfl⟩
theorem aCh : (oS "").length ≤ 2 := by decide +kernel
theorem aDj {kd nm : Str} {at_ : List (Str × Str)} {r : List AV} (D : Dc β f R L m) (hm : m ≤ 80000) (hf : β.foster = false ∨ isPart f.nm = false) (t : LfTok f R nm at_)
  (h : ∀ N' c' e' (n' : Nat) oe' ν', Dc { β with nodes := N', cont := c', contE := e', owners := ownI β.owners β.form n' nm, ownE := oe' } (f.add n' (.el nm at_ [])) R (L ++ ownL β.form nm at_) (m + 3) → (∃ nd, gN N' n' = some nd ∧ nd.name = nm) →
   Q (.int n') (BH X { β with nodes := N', cont := c', contE := e', owners := ownI β.owners β.form n' nm, ownE := oe', items := β.items ++ [(n' : Int)] } ν')) : Cd Γ 5 (.ref 124) [.ref .bld, .tup (.str kd :: .str nm :: .tup (pairL at_) :: r)] (BH X β ν) Q := by
 obtain ⟨n, hn, hk, s⟩ := D.here (by omega) hf
 refine aAy s (D.tok hm t.t t.n t.a t.l) fun fr cx e e' ν' hfr => ?_
 obtain ⟨oe, eq⟩ := aT5 (β := insE β f.id n f.ids.length nm at_ fr cx e) (n := (β.nodes.length : Int)) (nm := nm) (e := e')
 rw [eq, aH0 (r := f.nxt) (by rw [hk, D.nxt, List.append_nil])]
 have D1 := D.leaf hn (new := elmN nm at_) rfl aCh hfr.ok aL4
 have nn : gN (insN β.nodes f.id n (f.ids ++ (β.nodes.length : Int) :: f.nxt) (elmN nm at_) fr) β.nodes.length = some { elmN nm at_ with parent := f.id } := aD9
 exact h _ _ _ β.nodes.length oe ν' (D1.ownN nn) ⟨_, nn, rfl⟩
theorem aGr {kd nm : Str} {at_ : List (Str × Str)} {r : List AV} {R0 pre : List Fm} {tb bd : Fm} (D : Dc β f (R0 ++ [bd]) L m) (hm : m ≤ 80000) (F : Fos f R0 pre tb bd) (hf : β.foster = true) (hp : isPart f.nm = true) (t : LfTok f (R0 ++ [bd]) nm at_)
  (h : ∀ N' c' e' (n' : Nat) oe' ν', Dc { β with nodes := N', cont := c', contE := e', owners := ownI β.owners β.form n' nm, ownE := oe' } f (R0 ++ [bd.add n' (.el nm at_ [])]) (L ++ ownL β.form nm at_) (m + 3) →
   Q (.int n') (BH X { β with nodes := N', cont := c', contE := e', owners := ownI β.owners β.form n' nm, ownE := oe', items := β.items ++ [(n' : Int)] } ν')) : Cd Γ 5 (.ref 124) [.ref .bld, .tup (.str kd :: .str nm :: .tup (pairL at_) :: r)] (BH X β ν) Q := by
 obtain ⟨n, hn, hk, s, nb, hnb, hpb⟩ := D.out (by omega) F hf hp
 refine aAy s (D.tok hm t.t t.n t.a t.l) fun fr cx e e' ν' hfr => ?_
 obtain ⟨oe, eq⟩ := aT5 (β := insE β bd.id n bd.ids.length nm at_ fr cx e) (n := (β.nodes.length : Int)) (nm := nm) (e := e')
 rw [eq, aH0 (r := bd.nxt) (by rw [hk, F.bn])]
 have D1 := D.leafOut hn (new := elmN nm at_) rfl aCh hfr.ok aL4
 have nn : gN (insN β.nodes bd.id n (bd.ids ++ (β.nodes.length : Int) :: bd.nxt) (elmN nm at_) fr) β.nodes.length = some { elmN nm at_ with parent := bd.id } := aD9
 exact h _ _ _ β.nodes.length oe ν' (D1.ownN nn)
noncomputable abbrev Fm.new (p : Int) (n : Nat) (nm : Str) (at_ : List (Str × Str)) : Fm := ⟨n, p, nm, at_, [], [], []⟩
theorem DcP.openHere (D : DcP N cont items errs own pends form f R L m) {np : Node} {nm : Str} {at_ : List (Str × Str)} (hp : gN N f.id = some np) (hR : R.length ≤ 9) :
  DcP (insN N f.id np (f.ids ++ (N.length : Int) :: f.nxt) (elmN nm at_) []) (cont ++ []) (items ++ [(N.length : Int)]) errs own pends form (Fm.new f.id N.length nm at_) ({ f with nxt := (N.length : Int) :: f.nxt } :: R) L (m + 2) := by
 have ok := D.dn.fm f (.head _)
 refine hZ fun GZ kZ => ?_
 obtain ⟨n, e, _, _, _, _, _, kk⟩ := ok.node
 rwa [hp] at e
 have nx : ∀ x ∈ f.nxt, x < N.length := by rw [D.nxt]; simp
 refine kZ ?_
 refine D.ins hp ⟨by rw [kk]; simp; omega, fun x hx => ?_⟩ rfl aCh FrOk.nil (D.dn.open_ hp rfl rfl rfl nx) (by rw [D.its]; simp) rfl (fun q hq hm => ?_) (by simp; omega)
 ·rcases List.mem_append.mp hx with h | h
  ·have := ok.lt x h; exact oz23 this
  ·rcases List.mem_cons.mp h with rfl | h
   ·omega
   ·have := nx x h; exact oz23 this
 ·rw [List.append_nil] at hq
  have h1 := D.clt q hq
  have h2 := D.cf q hq
  simp only [opens, List.map_cons, List.mem_cons] at hm h2
  rcases hm with z | z | z | z
  ·exact h2 (.inl z)
  ·exact h2 (.inr (.inl z))
  ·omega
  ·exact h2 (.inr (.inr z))
theorem DcP.openOut {R0 : List Fm} {bd : Fm} (D : DcP N cont items errs own pends form f (R0 ++ [bd]) L m) {np : Node} {nm : Str} {at_ : List (Str × Str)} (hp : gN N bd.id = some np) (hR : R0.length ≤ 8) :
  DcP (insN N bd.id np (bd.ids ++ (N.length : Int) :: bd.nxt) (elmN nm at_) []) (cont ++ []) (items ++ [(N.length : Int)]) errs own pends form (Fm.new bd.id N.length nm at_) (f :: (R0 ++ [{ bd with nxt := (N.length : Int) :: bd.nxt }])) L (m + 2) := by
 have mb : bd ∈ f :: (R0 ++ [bd]) := by simp
 have ok := D.dn.fm bd mb
 refine hZ fun GZ kZ => ?_
 obtain ⟨n, e, _, _, _, _, _, kk⟩ := ok.node
 rwa [hp] at e
 have nx : ∀ x ∈ bd.nxt, x < N.length := fun x hx => (D.kids _ _ hp).2.2 x (by rw [kk]; exact List.mem_append_right _ hx)
 have p1 : (f :: (R0 ++ [bd])).Perm (bd :: f :: R0) := by
  have := List.perm_append_comm (l₁ := f :: R0) (l₂ := [bd])
  simpa using this
 have p2 : (Fm.new bd.id N.length nm at_ :: { bd with nxt := (N.length : Int) :: bd.nxt } :: f :: R0).Perm (Fm.new bd.id N.length nm at_ :: f :: (R0 ++ [{ bd with nxt := (N.length : Int) :: bd.nxt }])) := by
  have := List.perm_append_comm (l₁ := [{ bd with nxt := (N.length : Int) :: bd.nxt }]) (l₂ := f :: R0)
  exact .cons _ (by simpa using this)
 refine kZ ?_
 refine D.ins hp ⟨by rw [kk]; simp; omega, fun x hx => ?_⟩ rfl aCh FrOk.nil (((D.dn.perm p1).open_ hp (new := elmN nm at_) (fr := []) rfl rfl rfl nx).perm p2) (by rw [D.its]; simp) rfl (fun q hq hm => ?_) (by simp; omega)
 ·rcases List.mem_append.mp hx with h | h
  ·have := ok.lt x h; exact oz23 this
  ·rcases List.mem_cons.mp h with rfl | h
   ·omega
   ·have := nx x h; exact oz23 this
 ·rw [List.append_nil] at hq
  have h1 := D.clt q hq
  have h2 := D.cf q hq
  simp only [opens, List.map_cons, List.map_append, List.map_nil, List.mem_cons, List.mem_append] at hm h2
  rcases hm with z | z | z | z
  ·exact h2 (.inl z)
  ·exact h2 (.inr (.inl z))
  ·omega
  ·exact h2 (.inr (.inr z))
theorem aDk {kd nm : Str} {at_ : List (Str × Str)} {r : List AV} (D : Dc β f R L m) (hm : m ≤ 80000) (hR : R.length ≤ 9) (hf : β.foster = false ∨ isPart f.nm = false) (t : LfTok f R nm at_) (hn : nm ≠ oS "template" ∧ nm ≠ oS "input")
  (h : ∀ N' (n' : Nat) e' ν', Dc { β with nodes := N', contE := e', items := β.items ++ [(n' : Int)] } (Fm.new f.id n' nm at_) ({ f with nxt := [(n' : Int)] } :: R) L (m + 2) →
   Q (.int n') (BH X { β with nodes := N', contE := e', items := β.items ++ [(n' : Int)] } ν')) : Cd Γ 5 (.ref 124) [.ref .bld, .tup (.str kd :: .str nm :: .tup (pairL at_) :: r)] (BH X β ν) Q := by
 obtain ⟨n, hq, hk, s⟩ := D.here (by omega) hf
 refine aAy s (D.tok hm t.t t.n t.a t.l) fun fr cx e e' ν' hfr => ?_
 have eq : asB (insE β f.id n f.ids.length nm at_ fr cx e) β.nodes.length nm e' = insE β f.id n f.ids.length nm at_ fr cx e := if_neg fun q => hn.2 q.2
 rw [eq, aH0 (r := f.nxt) (by rw [hk, D.nxt, List.append_nil])]
 cases hfr with
 | tmpl q => exact absurd q hn.1
 | plain _ =>
  have D1 := D.openHere (nm := nm) (at_ := at_) hq hR
  rw [List.append_nil] at D1 ⊢
  have e2 : f.nxt = [] := D.nxt
  rw [e2] at D1 ⊢
  exact h _ β.nodes.length e ν' D1
theorem aGs {kd nm : Str} {at_ : List (Str × Str)} {r : List AV} {R0 pre : List Fm} {tb bd : Fm} (D : Dc β f (R0 ++ [bd]) L m) (hm : m ≤ 80000) (hR : R0.length ≤ 8) (F : Fos f R0 pre tb bd) (hf : β.foster = true) (hp : isPart f.nm = true) (t : LfTok f (R0 ++ [bd]) nm at_) (hn : nm ≠ oS "template" ∧ nm ≠ oS "input")
  (h : ∀ N' (n' : Nat) e' ν', Dc { β with nodes := N', contE := e', items := β.items ++ [(n' : Int)] } (Fm.new bd.id n' nm at_) (f :: (R0 ++ [{ bd with nxt := (n' : Int) :: bd.nxt }])) L (m + 2) →
   Q (.int n') (BH X { β with nodes := N', contE := e', items := β.items ++ [(n' : Int)] } ν')) : Cd Γ 5 (.ref 124) [.ref .bld, .tup (.str kd :: .str nm :: .tup (pairL at_) :: r)] (BH X β ν) Q := by
 obtain ⟨n, hq, hk, s, nb, hnb, hpb⟩ := D.out (by omega) F hf hp
 refine aAy s (D.tok hm t.t t.n t.a t.l) fun fr cx e e' ν' hfr => ?_
 have eq : asB (insE β bd.id n bd.ids.length nm at_ fr cx e) β.nodes.length nm e' = insE β bd.id n bd.ids.length nm at_ fr cx e := if_neg fun q => hn.2 q.2
 rw [eq, aH0 (r := bd.nxt) (by rw [hk, F.bn])]
 cases hfr with
 | tmpl q => exact absurd q hn.1
 | plain _ =>
  have D1 := D.openOut (nm := nm) (at_ := at_) hq hR
  rw [List.append_nil] at D1 ⊢
  exact h _ β.nodes.length e ν' D1
theorem DcP.close {g : Fm} {r : List Int} (D : DcP N cont items errs own pends form f (g :: R) L m) (hp : f.par = g.id) (hn : g.nxt = f.id :: r) (hr : r = []) (hR : ∀ k ∈ g :: R, k.par ≠ f.id) :
  DcP N cont items.dropLast errs own pends form { g with ids := g.ids ++ [f.id], ts := g.ts ++ [.el f.nm f.at_ f.ts], nxt := r } R L m :=
 ⟨D.dn.close D.nxt hp hn hR, by rw [D.its]; simp [List.dropLast], hr, D.len, D.desc, D.kids, D.el, D.cl, D.clt, fun q hq hm => by
  refine D.cf q hq ?_
  simp only [opens, List.map_cons, List.mem_cons] at hm ⊢
  rcases hm with z | z | z
  ·exact .inl z
  ·exact .inr (.inl z)
  ·exact .inr (.inr (.inr z)), D.ol, D.olt, D.pl, by have := D.rl; simp at this; omega, D.os, D.fo⟩
end
section
variable {N : List Node} {cont own : List (Int × Int)} {items : List Int} {errs : List (Str × Str)} {pends : List (List Str)} {form : Int} {f : Fm} {R : List Fm} {L : List (List (Str × Str))} {m : Nat}
theorem DcP.closeOut {g bd : Fm} {R0 : List Fm} {r : List Int} (D : DcP N cont items errs own pends form f (g :: (R0 ++ [bd])) L m) (hp : f.par = bd.id) (hn : bd.nxt = f.id :: r) (hg : g.nxt = []) (hR : ∀ k ∈ g :: (R0 ++ [bd]), k.par ≠ f.id) :
  DcP N cont items.dropLast errs own pends form g (R0 ++ [{ bd with ids := bd.ids ++ [f.id], ts := bd.ts ++ [.el f.nm f.at_ f.ts], nxt := r }]) L m := by
 have p1 : (f :: g :: (R0 ++ [bd])).Perm (f :: bd :: g :: R0) := by
  have := List.perm_append_comm (l₁ := g :: R0) (l₂ := [bd])
  exact .cons _ (by simpa using this)
 have p2 : ({ bd with ids := bd.ids ++ [f.id], ts := bd.ts ++ [.el f.nm f.at_ f.ts], nxt := r } :: g :: R0).Perm (g :: (R0 ++ [{ bd with ids := bd.ids ++ [f.id], ts := bd.ts ++ [.el f.nm f.at_ f.ts], nxt := r }])) := by
  have := List.perm_append_comm (l₁ := [{ bd with ids := bd.ids ++ [f.id], ts := bd.ts ++ [.el f.nm f.at_ f.ts], nxt := r }]) (l₂ := g :: R0)
  simpa using this
 refine ⟨((D.dn.perm p1).close D.nxt hp hn fun k hk => hR k ?_).perm p2, by rw [D.its]; simp [List.dropLast], hg, D.len, D.desc, D.kids, D.el, D.cl, D.clt, fun q hq hm => D.cf q hq ?_, D.ol, D.olt, D.pl, by have := D.rl; simp at this ⊢; omega, D.os, D.fo⟩
 ·rcases List.mem_cons.mp hk with rfl | hk
  ·simp
  ·rcases List.mem_cons.mp hk with rfl | hk
   ·simp
   ·simp [hk]
 ·simp only [opens, List.map_cons, List.map_append, List.map_nil, List.mem_cons, List.mem_append] at hm ⊢
  rcases hm with z | z | z
  ·exact .inl z
  ·exact .inr (.inl z)
  ·exact .inr (.inr (.inr z))
end
abbrev Ret0 (Q : AV → AH → Prop) : AV → AH → Prop := fun v H' => v = .none ∧ Q .none H'
theorem aC8 {x : Str} (hx : x ≠ oS "\x00") (h : Cd Γ 5 (.ref 92) [.ref .bld, .str x] H (Ret0 Q)) : Cd Γ 6 (.ref 745) [.ref .bld, .tup [.str "char", .str x]] H Q := by
 refine aBl fun P => ?_
 nofun
 refine aA4 (h.mono fun v H' q => ?_) rfl
 obtain ⟨rfl, q⟩ := q
 nofun
 exact aA1 q
theorem aEd (h : Q .none H) : Cd Γ 6 (.ref 745) [.ref .bld, .tup [.str "char", .str "\x00"]] H Q := by
 refine aBl fun P => ?_
 nofun
 exact aA1 h
theorem aJo (hz : β.errors.length ≤ 1000000) (h : Q .none (BH X { β with errors := β.errors ++ [(oS "unexpected-eof", β.mode)] } ν)) : Cd Γ 6 (.ref 745) [.ref .bld, .tup [.str "eof"]] (BH X β ν) Q := by
 refine aBl fun P => ?_
 nofun
 exact aA1 h
theorem aF7 {k : Int} {nk : Node} {nm : Str} {r : List AV} (t : Tp β k nk) (hn : nm ≠ nk.name) (h : Q .none (BH X β ν)) : Cd Γ 6 (.ref 745) [.ref .bld, .tup (.str "end" :: .str nm :: r)] (BH X β ν) Q := by
 have hv := t.hv
 have hk := t.hn
 have hs := t.hs
 have hz := t.hz
 refine aBl fun P => ?_
 nofun
 exact aA1 h
theorem aJn {k : Int} {nk : Node} {nm : Str} {r : List AV} (t : Tp β k nk) (hn : nm = nk.name) (h : Q .none (BH X { β with items := β.items.dropLast } ν)) : Cd Γ 6 (.ref 745) [.ref .bld, .tup (.str "end" :: .str nm :: r)] (BH X β ν) Q := by
 have hv := t.hv
 have hk := t.hn
 have hs := t.hs
 have hz := t.hz
 refine aBl fun P => ?_
 nofun
 exact aA1 h
theorem aI1 {nm : Str} {at_ : AV} {r : List AV} (hn : [AV.str "input", .str "br"].any (isStr nm) = true) (h : Cd Γ 6 (.ref 131) [.ref .bld, .tup (.str "start" :: .str nm :: at_ :: r)] H (fun v H' => (∃ n, v = .int n) ∧ Q .none H')) :
  Cd Γ 7 (.ref 745) [.ref .bld, .tup (.str "start" :: .str nm :: at_ :: r)] H Q := by
 refine aBl fun P => ?_
 nofun
 refine aA4 (h.mono fun v H' q => ?_) rfl
 obtain ⟨⟨n, rfl⟩, q⟩ := q
 nofun
 exact aA1 q
theorem aI0 {nm : Str} {at_ : AV} {r : List AV} (hn : [AV.str "input", .str "br"].any (isStr nm) = false) (hn2 : nm ≠ oS "table") (h : Cd Γ 5 (.ref 124) [.ref .bld, .tup (.str "start" :: .str nm :: at_ :: r)] H (fun v H' => (∃ n, v = .int n) ∧ Q .none H')) :
  Cd Γ 7 (.ref 745) [.ref .bld, .tup (.str "start" :: .str nm :: at_ :: r)] H Q := by
 refine aBl fun P => ?_
 nofun
 refine aA4 (h.mono fun v H' q => ?_) rfl
 obtain ⟨⟨n, rfl⟩, q⟩ := q
 nofun
 exact aA1 q
theorem aGk {at_ : AV} {r : List AV} (h : Cd Γ 5 (.ref 124) [.ref .bld, .tup (.str "start" :: .str "table" :: at_ :: r)] H (fun v H' => (∃ n, v = .int n) ∧ ∃ β' ν', H' = BH X β' ν' ∧ Q .none (BH X { β' with mode := oS "in table" } ν'))) :
  Cd Γ 7 (.ref 745) [.ref .bld, .tup (.str "start" :: .str "table" :: at_ :: r)] H Q := by
 refine aBl fun P => ?_
 nofun
 refine aA4 (h.mono fun v H' q => ?_) rfl
 obtain ⟨⟨n, rfl⟩, β', ν', rfl, q⟩ := q
 nofun
 exact aA1 q
theorem aGm {nm at_ : AV} {r : List AV} (h : Cd Γ 5 (.ref 124) [.ref .bld, .tup (.str "start" :: nm :: at_ :: r)] H (fun v H' => (∃ n, v = .int n) ∧ ∃ β' ν' k, H' = BH X β' ν' ∧ β'.items.getLast? = some k ∧ β'.items.length ≤ 1000000 ∧ Q .none (BH X { β' with items := β'.items.dropLast } ν'))) :
  Cd Γ 6 (.ref 752) [.ref .bld, .tup (.str "start" :: nm :: at_ :: r)] H Q := by
 refine aLg fun P => ?_
 nofun
 refine aA4 (h.mono fun v H' q => ?_) rfl
 obtain ⟨⟨n, rfl⟩, β', ν', k, rfl, hv, hz, q⟩ := q
 nofun
 exact aA1 q
theorem aJs {nm : AV} {r : List AV} (hz : β.errors.length ≤ 1000000) (h : Q .none (BH X { β with errors := β.errors ++ [(oS "told to the head's rule", β.mode)] } ν)) : Cd Γ 6 (.ref 752) [.ref .bld, .tup (.str "end" :: nm :: r)] (BH X β ν) Q := by
 refine aLg fun P => ?_
 nofun
 exact aA1 h
inductive Handed : AV → Prop
 | oth {kd : Str} {r : List AV} : kd ≠ oS "start" → kd ≠ oS "end" → Handed (.tup (.str kd :: r))
 | st {nm : Str} {r : List AV} : nm ≠ oS "tr" → Handed (.tup (.str "start" :: .str nm :: r))
 | en {nm : Str} {r : List AV} : [AV.str "tbody", .str "tr"].any (isStr nm) = false → Handed (.tup (.str "end" :: .str nm :: r))
theorem aGt {tok : AV} {n : Nat} (g : Handed tok) (h : Cl Γ n (.ref 377) [.ref .bld, tok] (BH X β ν) (Ret0 Q)) : Cd Γ (n + 2) (.ref 759) [.ref .bld, tok] (BH X β ν) Q := by
 refine aE3 fun P => ?_
 cases g with
 | oth h1 h2 =>
  nofun
  refine aC5 (aDs aCo (h.mono fun v H' q => ⟨q.1, aAj (aAg (aA9 (aAg (aA9 (aAg (aA1 q.2))))))⟩)) (by omega)
 | st h1 =>
  nofun
  refine aC5 (aDs aCo (h.mono fun v H' q => ⟨q.1, aAj (aAg (aA9 (aAg (aA9 (aAg (aA1 q.2))))))⟩)) (by omega)
 | en h1 =>
  nofun
  refine aC5 (aDs aCo (h.mono fun v H' q => ⟨q.1, aAj (aAg (aA9 (aAg (aA9 (aAg (aA1 q.2))))))⟩)) (by omega)
theorem aMf {at_ : AV} {r : List AV} (h : Cd Γ 5 (.ref 124) [.ref .bld, .tup (.str "start" :: .str "tr" :: at_ :: r)] H (fun v H' => (∃ n, v = .int n) ∧ ∃ β' ν', H' = BH X β' ν' ∧ Q .none (BH X { β' with mode := oS "in row" } ν'))) :
  Cd Γ 6 (.ref 759) [.ref .bld, .tup (.str "start" :: .str "tr" :: at_ :: r)] H Q := by
 refine aE3 fun P => ?_
 nofun
 refine aA4 (h.mono fun v H' q => ?_) rfl
 obtain ⟨⟨n, rfl⟩, β', ν', rfl, q⟩ := q
 nofun
 exact aA1 q
theorem aFb {k : Int} {r : List AV} (hv : β.items.getLast? = some k) (hz : β.items.length ≤ 1000000) (h : Q .none (BH X { β with items := β.items.dropLast, mode := oS "in table body" } ν)) : Cd Γ 6 (.ref 759) [.ref .bld, .tup (.str "end" :: .str "tr" :: r)] (BH X β ν) Q := by
 refine aE3 fun P => ?_
 nofun
 exact aA1 h
theorem aDl {k : Int} {r : List AV} (hv : β.items.getLast? = some k) (hz : β.items.length ≤ 1000000) (h : Q .none (BH X { β with items := β.items.dropLast, mode := oS "in table" } ν)) : Cd Γ 6 (.ref 759) [.ref .bld, .tup (.str "end" :: .str "tbody" :: r)] (BH X β ν) Q := by
 refine aE3 fun P => ?_
 nofun
 exact aA1 h
theorem aBc {tok : AV} {n : Nat} (hz : β.errors.length ≤ 1000000) (h : Cl Γ n (.ref 745) [.ref .bld, tok] (BH X { β with errors := β.errors ++ [(oS "foster-parented", β.mode)], foster := true } ν) (fun v H' => v = .none ∧ ∃ β' ν', H' = BH X β' ν' ∧ Q .none (BH X { β' with foster := false } ν'))) :
  Cd Γ (n + 2) (.ref 314) [.ref .bld, tok] (BH X β ν) Q := by
 refine aRo fun P => ?_
 nofun
 refine aC5 (aDs aHg (h.mono fun v H' q => ?_)) (by omega)
 obtain ⟨rfl, β', ν', rfl, q⟩ := q
 refine ⟨rfl, ?_⟩
 nofun
 exact aA1 q
theorem aGp {x : Str} (h : Cd Γ 4 (.ref 100) [.ref .bld, .str x] H (Ret0 Q)) : Cd Γ 5 (.ref 377) [.ref .bld, .tup [.str "comment", .str x]] H Q := by
 refine aCl fun P => ?_
 nofun
 refine aA4 (h.mono fun v H' q => ?_) rfl
 obtain ⟨rfl, q⟩ := q
 nofun
 exact aA1 q
theorem aGq {r : List AV} (hz : β.errors.length ≤ 1000000) (h : Q .none (BH X { β with errors := β.errors ++ [(oS "unexpected-doctype", β.mode)] } ν)) : Cd Γ 5 (.ref 377) [.ref .bld, .tup (.str "doctype" :: r)] (BH X β ν) Q := by
 refine aCl fun P => ?_
 nofun
 exact aA1 h
theorem aO5 {n : Nat} (h : Cl Γ n (.ref 745) [.ref .bld, .tup [.str "eof"]] (BH X β ν) (Ret0 Q)) : Cd Γ (n + 2) (.ref 377) [.ref .bld, .tup [.str "eof"]] (BH X β ν) Q := by
 refine aCl fun P => ?_
 nofun
 refine aC5 (aDs aHg (h.mono fun v H' q => ⟨q.1, ?_⟩)) (by omega)
 nofun
 exact aA1 q.2
theorem aAr {r : List AV} {n : Nat} (h : Cl Γ n (.ref 356) [.ref .bld, .tup (.str "start" :: r)] H (Ret0 Q)) : Cd Γ (n + 1) (.ref 377) [.ref .bld, .tup (.str "start" :: r)] H Q := by
 refine aCl fun P => ?_
 nofun
 refine h.mono fun v H' q => ?_
 obtain ⟨rfl, q⟩ := q
 nofun
 exact aA1 q
theorem aC9 {r : List AV} {n : Nat} (h : Cl Γ n (.ref 363) [.ref .bld, .tup (.str "end" :: r)] H (Ret0 Q)) : Cd Γ (n + 1) (.ref 377) [.ref .bld, .tup (.str "end" :: r)] H Q := by
 refine aCl fun P => ?_
 nofun
 refine h.mono fun v H' q => ?_
 obtain ⟨rfl, q⟩ := q
 nofun
 exact aA1 q
theorem aFt {r : List AV} {n : Nat} (h : Cl Γ n (.ref 370) [.ref .bld, .tup (.str "char" :: r)] H (Ret0 Q)) : Cd Γ (n + 1) (.ref 377) [.ref .bld, .tup (.str "char" :: r)] H Q := by
 refine aCl fun P => ?_
 nofun
 refine h.mono fun v H' q => ?_
 obtain ⟨rfl, q⟩ := q
 nofun
 exact aA1 q
theorem aEi {k : Int} {nk : Node} (t : Tp β k nk) (hn : nk.name = oS "table") (h : Q .none (BH X β ν)) : Cd Γ 4 (.ref 307) [.ref .bld] (BH X β ν) Q := by
 refine aRn fun P => ?_
 nofun
 refine aA4 (aO6 t.hv t.hn t.hs rfl (by rw [hn]; decide +kernel) t.hz ?_) rfl
 nofun
 exact aA1 h
theorem aJy {k : Int} {nk : Node} {at_ : AV} {r : List AV} (t : Tp β k nk) (hn : nk.name = oS "table") (h : Cd Γ 5 (.ref 124) [.ref .bld, .tup (.str "start" :: .str "tbody" :: at_ :: r)] (BH X β ν) (fun v H' => (∃ n, v = .int n) ∧ ∃ β' ν', H' = BH X β' ν' ∧ Q .none (BH X { β' with mode := oS "in table body" } ν'))) :
  Cd Γ 7 (.ref 356) [.ref .bld, .tup (.str "start" :: .str "tbody" :: at_ :: r)] (BH X β ν) Q := by
 refine aDd fun P => ?_
 nofun
 refine aA4 (d' := 6) (aRq fun P => ?_) rfl
 nofun
 refine aA4 (aEi t hn ?_) rfl
 nofun
 refine aA4 (h.mono fun v H' q => ?_) rfl
 obtain ⟨⟨n, rfl⟩, β', ν', rfl, q⟩ := q
 nofun
 refine aA1 ?_
 nofun
 exact aA1 q
theorem aMh {nm : Str} {r : List AV} {n : Nat} (h1 : [AV.str "caption", .str "colgroup", .str "col", .str "tbody", .str "tfoot", .str "thead", .str "td", .str "th", .str "tr"].any (isStr nm) = false) (h2 : nm ≠ oS "table")
  (h3 : [AV.str "style", .str "script", .str "template"].any (isStr nm) = true) (h : Cl Γ n (.ref 752) [.ref .bld, .tup (.str "start" :: .str nm :: r)] (BH X β ν) (Ret0 Q)) : Cd Γ (n + 2) (.ref 356) [.ref .bld, .tup (.str "start" :: .str nm :: r)] (BH X β ν) Q := by
 refine aDd fun P => ?_
 nofun
 refine aC5 (aDs aP5 (h.mono fun v H' q => ⟨q.1, ?_⟩)) (by omega)
 nofun
 exact aA1 q.2
theorem aIc {nm : Str} {r : List AV} {n : Nat} (h1 : [AV.str "caption", .str "colgroup", .str "col", .str "tbody", .str "tfoot", .str "thead", .str "td", .str "th", .str "tr"].any (isStr nm) = false) (h2 : nm ≠ oS "table")
  (h3 : [AV.str "style", .str "script", .str "template"].any (isStr nm) = false) (h4 : nm ≠ oS "input") (h5 : nm ≠ oS "form") (h : Cl Γ n (.ref 314) [.ref .bld, .tup (.str "start" :: .str nm :: r)] (BH X β ν) (Ret0 Q)) : Cd Γ (n + 1) (.ref 356) [.ref .bld, .tup (.str "start" :: .str nm :: r)] (BH X β ν) Q := by
 refine aDd fun P => ?_
 nofun
 refine h.mono fun v H' q => ?_
 obtain ⟨rfl, q⟩ := q
 nofun
 exact aA1 q
theorem aEj {r : List AV} {n : Nat} (h : Cl Γ n (.ref 342) [.ref .bld, .tup (.str "start" :: .str "input" :: r)] (BH X β ν) (Ret0 Q)) : Cd Γ (n + 1) (.ref 356) [.ref .bld, .tup (.str "start" :: .str "input" :: r)] (BH X β ν) Q := by
 refine aDd fun P => ?_
 nofun
 refine h.mono fun v H' q => ?_
 obtain ⟨rfl, q⟩ := q
 nofun
 exact aA1 q
theorem aFv {r : List AV} {n : Nat} (h : Cl Γ n (.ref 349) [.ref .bld, .tup (.str "start" :: .str "form" :: r)] (BH X β ν) (Ret0 Q)) : Cd Γ (n + 1) (.ref 356) [.ref .bld, .tup (.str "start" :: .str "form" :: r)] (BH X β ν) Q := by
 refine aDd fun P => ?_
 nofun
 refine h.mono fun v H' q => ?_
 obtain ⟨rfl, q⟩ := q
 nofun
 exact aA1 q
theorem aEh {kd nm : AV} {at_ : List (Str × Str)} {r : List AV} {x : Str} (hv : valA at_ (oS "type") = .str x) (ha : x.cps.toList.all (fun c => decide (c ≤ 127)) = true) (hl : x.cps.toList.length ≤ 1000) (hx : lowT x = oS "hidden") (hz : β.errors.length ≤ 1000000)
  (h : ∀ ν', Cd Γ 6 (.ref 131) [.ref .bld, .tup (kd :: nm :: .tup (pairL at_) :: r)] (BH X { β with errors := β.errors ++ [(oS "unexpected-start-tag", β.mode)] } ν') (fun v H' => (∃ n, v = .int n) ∧ Q .none H')) : Cd Γ 7 (.ref 342) [.ref .bld, .tup (kd :: nm :: .tup (pairL at_) :: r)] (BH X β ν) Q := by
 refine aHb fun P => ?_
 nofun
 refine aA4 (aCy ?_) rfl
 rw [hv]
 nofun
 refine aA4 (aD3 ha hl ?_) rfl
 rw [hx]
 nofun
 refine aA4 ((h _).mono fun v H' q => ?_) rfl
 obtain ⟨⟨n, rfl⟩, q⟩ := q
 nofun
 exact aA1 q
theorem aGn {kd nm : AV} {at_ : List (Str × Str)} {r : List AV} {n : Nat} (hv : valA at_ (oS "type") = .none) (h : Cl Γ (n + 1) (.ref 314) [.ref .bld, .tup (kd :: nm :: .tup (pairL at_) :: r)] (BH X β ν) (Ret0 Q)) : Cd Γ (n + 2) (.ref 342) [.ref .bld, .tup (kd :: nm :: .tup (pairL at_) :: r)] (BH X β ν) Q := by
 refine aHb fun P => ?_
 nofun
 refine aC5 (aCy ?_) (by omega)
 rw [hv]
 nofun
 refine h.mono fun v H' q => ?_
 obtain ⟨rfl, q⟩ := q
 nofun
 exact aA1 q
theorem aF9 {kd nm : AV} {at_ : List (Str × Str)} {r : List AV} {x : Str} {n : Nat} (hv : valA at_ (oS "type") = .str x) (ha : x.cps.toList.all (fun c => decide (c ≤ 127)) = true) (hl : x.cps.toList.length ≤ 1000) (hx : lowT x ≠ oS "hidden")
  (h : ∀ ν', Cl Γ (n + 3) (.ref 314) [.ref .bld, .tup (kd :: nm :: .tup (pairL at_) :: r)] (BH X β ν') (Ret0 Q)) : Cd Γ (n + 4) (.ref 342) [.ref .bld, .tup (kd :: nm :: .tup (pairL at_) :: r)] (BH X β ν) Q := by
 refine aHb fun P => ?_
 nofun
 refine aC5 (aCy ?_) (by omega)
 rw [hv]
 nofun
 refine aC5 (aD3 ha hl ?_) (by omega)
 nofun
 refine (h _).mono fun v H' q => ?_
 obtain ⟨rfl, q⟩ := q
 nofun
 exact aA1 q
theorem aGl {kd nm at_ : AV} {r : List AV} (hf : β.form = -1) (hz : β.errors.length ≤ 1000000) (ht : ∀ v ∈ β.items, ∃ n, Nd β v n ∧ n.name ≠ oS "template")
  (h : Cd Γ 5 (.ref 124) [.ref .bld, .tup (kd :: nm :: at_ :: r)] (BH X { β with errors := β.errors ++ [(oS "unexpected-start-tag", β.mode)] } ν) (fun v H' => ∃ n β' ν' k, v = .int n ∧ H' = BH X β' ν' ∧ β'.items.getLast? = some k ∧ β'.items.length ≤ 1000000 ∧ Q .none (BH X { β' with form := n, items := β'.items.dropLast } ν'))) :
  Cd Γ 6 (.ref 349) [.ref .bld, .tup (kd :: nm :: at_ :: r)] (BH X β ν) Q := by
 refine aLb fun P => ?_
 nofun
 refine aA4 (aEg (β := { β with errors := β.errors ++ [(oS "unexpected-start-tag", β.mode)] }) (fun v hv => let ⟨n, a, b⟩ := ht v hv; ⟨n, ⟨a.lo, a.hi, a.at_⟩, b⟩) ?_) rfl
 nofun
 refine aA4 (h.mono fun v H' q => ?_) rfl
 obtain ⟨n, β', ν', k, rfl, rfl, hv, hz, q⟩ := q
 nofun
 exact aA1 q
theorem aI4 {kd nm at_ : AV} {r : List AV} (hf : β.form ≠ -1) (hz : β.errors.length ≤ 1000000) (h : Q .none (BH X { β with errors := β.errors ++ [(oS "unexpected-start-tag", β.mode)] } ν)) : Cd Γ 6 (.ref 349) [.ref .bld, .tup (kd :: nm :: at_ :: r)] (BH X β ν) Q := by
 refine aLb fun P => ?_
 nofun
 exact aA1 h
noncomputable def endErrs : List AV := [AV.str "body", .str "caption", .str "col", .str "colgroup", .str "html", .str "tbody", .str "td", .str "tfoot", .str "th", .str "thead", .str "tr"]
theorem aO2 {nm : Str} {r : List AV} (h1 : nm ≠ oS "table") (h2 : nm ≠ oS "template") (h3 : endErrs.any (isStr nm) = true) (hz : β.errors.length ≤ 1000000) (h : Q .none (BH X { β with errors := β.errors ++ [(oS "unexpected-end-tag", β.mode)] } ν)) : Cd Γ 6 (.ref 363) [.ref .bld, .tup (.str "end" :: .str nm :: r)] (BH X β ν) Q := by
 unfold endErrs at h3
 refine aE2 fun P => ?_
 nofun
 exact aA1 h
theorem aI2 {nm : Str} {r : List AV} {n : Nat} (h1 : nm ≠ oS "table") (h2 : nm ≠ oS "template") (h3 : endErrs.any (isStr nm) = false) (h : Cl Γ n (.ref 314) [.ref .bld, .tup (.str "end" :: .str nm :: r)] (BH X β ν) (Ret0 Q)) : Cd Γ (n + 1) (.ref 363) [.ref .bld, .tup (.str "end" :: .str nm :: r)] (BH X β ν) Q := by
 unfold endErrs at h3
 refine aE2 fun P => ?_
 nofun
 refine h.mono fun v H' q => ?_
 obtain ⟨rfl, q⟩ := q
 nofun
 exact aA1 q
theorem aF8 {r : List AV} {n : Nat} (h : Cl Γ n (.ref 752) [.ref .bld, .tup (.str "end" :: .str "template" :: r)] (BH X β ν) (Ret0 Q)) : Cd Γ (n + 2) (.ref 363) [.ref .bld, .tup (.str "end" :: .str "template" :: r)] (BH X β ν) Q := by
 refine aE2 fun P => ?_
 nofun
 refine aC5 (aDs aP5 (h.mono fun v H' q => ⟨q.1, ?_⟩)) (by omega)
 nofun
 exact aA1 q.2
theorem aJp {k0 k1 k : Int} {nk n1 : Node} {r : List AV} (hi : β.items = [k0, k1, k]) (hn : Nd β k nk) (hs : nk.space = oS "html") (hb : nk.name = oS "table") (hn1 : Nd β k1 n1) (hs1 : n1.space = oS "html") (hb1 : n1.name = oS "body") (h : ∀ ν', Q .none (BH X { β with items := [k0, k1], mode := oS "in body" } ν')) :
  Cd Γ 6 (.ref 363) [.ref .bld, .tup (.str "end" :: .str "table" :: r)] (BH X β ν) Q := by
 refine aE2 fun P => ?_
 nofun
 refine aA4 (aQa hi hn hs hb hn1 hs1 hb1 fun ν' => ?_) rfl
 nofun
 exact aA1 (h _)
theorem aIy {ps : List (List Str)} {l : List Str} (h : β.pends = ps ++ [l]) : β.pends[β.pends.length - 1]? = some l := by rw [h]; simp
theorem aLi {ps : List (List Str)} {l l' : List Str} (h : β.pends = ps ++ [l]) : β.pends.set (β.pends.length - 1) l' = ps ++ [l'] := by rw [h]; simp
theorem aIe {x : Str} {ps : List (List Str)} {l : List Str} (hx : x ≠ oS "\x00") (hp : β.pends = ps ++ [l]) (hl : l.length ≤ 1000000) (h : Q .none (BH X { β with pends := ps ++ [l ++ [x]] } ν)) : Cd Γ 6 (.ref 391) [.ref .bld, .tup [.str "char", .str x]] (BH X β ν) Q := by
 have hk := aIy hp
 refine aHc fun P => ?_
 nofun
 refine aF5 hk hl ?_
 rw [aLi hp]
 nofun
 exact aA1 h
theorem aK1 (hz : β.errors.length ≤ 1000000) (h : Q .none (BH X { β with errors := β.errors ++ [(oS "unexpected-null-character", β.mode)] } ν)) : Cd Γ 6 (.ref 391) [.ref .bld, .tup [.str "char", .str "\x00"]] (BH X β ν) Q := by
 refine aHc fun P => ?_
 nofun
 exact aA1 h
noncomputable def signNames : List AV := [AV.str "table", .str "tbody", .str "template", .str "tfoot", .str "thead", .str "tr"]
theorem aMg {k : Int} {nk : Node} {tok : AV} (t : Tp β k nk) (hn : signNames.any (isStr nk.name) = true) (h : Cl Γ 6 (.ref 391) [.ref .bld, tok] (BH X { β with pends := β.pends ++ [[]], orig := β.mode, mode := oS "in table text" } ν) (Ret0 Q)) : Cd Γ 13 (.ref 370) [.ref .bld, tok] (BH X β ν) Q := by
 have hv := t.hv
 have hk := t.hn
 have hs := t.hs
 have hz := t.hz
 unfold signNames at hn
 refine aLc fun P => ?_
 iterate 12 wtm_at "m.go"
 nofun
 refine aA6 (.pend β.pends.length) (aA7 ⟨rfl, aKp, ?_⟩)
 nofun
 refine aA4 (d' := 12) (aAp (β := { β with pends := β.pends ++ [[]], orig := β.mode, mode := oS "in table text" }) (k := k) (nk := nk) ⟨t.hv, ⟨t.hn.lo, t.hn.hi, t.hn.at_⟩, t.hs, t.hz⟩ aKk (n := 6) (by omega) (h.mono fun v H' q => ⟨q.1, ?_⟩)) rfl
 nofun
 exact aA1 q.2
theorem aGv {k : Int} {nk : Node} {tok : AV} {n : Nat} (t : Tp β k nk) (hn : signNames.any (isStr nk.name) = false) (h : Cl Γ (n + 2) (.ref 314) [.ref .bld, tok] (BH X β ν) (Ret0 Q)) : Cd Γ (n + 3) (.ref 370) [.ref .bld, tok] (BH X β ν) Q := by
 have hv := t.hv
 have hk := t.hn
 have hs := t.hs
 have hz := t.hz
 unfold signNames at hn
 refine aLc fun P => ?_
 nofun
 refine h.mono fun v H' q => ?_
 obtain ⟨rfl, q⟩ := q
 nofun
 exact aA1 q
theorem aSs {l : List Str} {i : Nat} {x : Str} (hx : l[i]? = some x) : (l.take (i + 1)).all blankC = ((l.take i).all blankC && blankC x) := by
 rw [List.take_add_one, hx]; simp
theorem aL3 {ps : List (List Str)} {l : List Str} {n : Nat} (hp : β.pends = ps ++ [l]) (P : Nat → BS → Prop) (hpe : ∀ i β', P i β' → β'.pends = ps ++ [l, []]) (h0 : P 0 { β with pends := ps ++ [l, []] })
  (h1 : l.all blankC = true → ∀ i x β' ν', l[i]? = some x → P i β' → Cd Γ (n + 4) (.ref 92) [.ref .bld, .str x] (BH X β' ν') (fun v H' => v = .none ∧ ∃ β2 ν2, H' = BH X β2 ν2 ∧ P (i + 1) β2))
  (h2 : l.all blankC = false → ∀ i x β' ν', l[i]? = some x → P i β' → Cd Γ (n + 4) (.ref 314) [.ref .bld, .tup [.str "char", .str x]] (BH X β' ν') (fun v H' => v = .none ∧ ∃ β2 ν2, H' = BH X β2 ν2 ∧ P (i + 1) β2))
  (h : ∀ β' ν', P l.length β' → Q .none (BH X β' ν')) : Cd Γ (n + 5) (.ref 384) [.ref .bld] (BH X β ν) Q := by
 refine aRr fun P0 => ?_
 nofun
 refine aA6 (.pend β.pends.length) (aA7 ⟨rfl, aKp, ?_⟩)
 nofun
 have e1 : β.pends ++ [[]] = ps ++ [l, []] := by rw [hp]; simp
 have e2 : β.pends.length - 1 = ps.length := by rw [hp]; simp
 rw [e1, e2]
 have at1 : ∀ β' : BS, β'.pends = ps ++ [l, []] → β'.pends[ps.length]? = some l := fun β' q => by rw [q]; simp
 have chG : ∀ {i : Nat} {u : AV}, (chL l)[i]? = some u → ∃ x, l[i]? = some x ∧ u = .tup [.str "char", .str x] := fun {i u} hu => by
  rw [chL, List.getElem?_map] at hu
  obtain ⟨x, hx, rfl⟩ := Option.map_eq_some_iff.mp hu
  exact ⟨x, hx, rfl⟩
 refine aAt (fun i ρ H => (∃ u, ρ = [(oS "builder", some (.ref .bld)), (oS "pending", some (.ref (.pend ps.length))), (oS "is_blank", some (.bool ((l.take i).all blankC))), (oS "each", u)]) ∧ H = BH X { β with pends := ps ++ [l, []] } ν) ?_
 refine aBf (aB8 (by wtm_at "m.get") ⟨.pend ps.length, chL l, rfl, aCv (at1 _ rfl), ⟨⟨none, rfl⟩, rfl⟩, ?_, ?_, ?_⟩)
 ·rintro i _ _ ⟨_, rfl⟩; exact aCv (at1 _ rfl)
 ·rintro i _ _ u ⟨⟨w, rfl⟩, rfl⟩ hu
  obtain ⟨x, hx, rfl⟩ := chG hu
  refine ⟨_, aAv (by wtm_at "m.put"), ?_⟩
  have ta := aSs hx
  cases hb : blankC x with
  | true =>
   rw [hb, Bool.and_true] at ta
   have c1 := hb
   nofun
   exact aAd ⟨⟨_, by rw [ta]⟩, rfl⟩
  | false =>
   rw [hb, Bool.and_false] at ta
   nofun
   exact aAd ⟨⟨_, by rw [ta]⟩, rfl⟩
 ·rintro _ _ ⟨⟨w, rfl⟩, rfl⟩
  have ea : (l.take (chL l).length).all blankC = l.all blankC := by rw [List.take_of_length_le (by simp [chL])]
  rw [ea]
  refine aAt (fun i ρ H => ∃ u β' ν', ρ = [(oS "builder", some (.ref .bld)), (oS "pending", some (.ref (.pend ps.length))), (oS "is_blank", some (.bool (l.all blankC))), (oS "each", u)] ∧ H = BH X β' ν' ∧ P i β') ?_
  refine aBf (aB8 (by wtm_at "m.get") ⟨.pend ps.length, chL l, rfl, aCv (at1 _ rfl), ⟨w, _, ν, rfl, rfl, h0⟩, ?_, ?_, ?_⟩)
  ·rintro i _ _ ⟨_, β', ν', _, rfl, q⟩; exact aCv (at1 _ (hpe _ _ q))
  ·rintro i _ _ u ⟨w, β', ν', rfl, rfl, q⟩ hu
   obtain ⟨x, hx, rfl⟩ := chG hu
   refine ⟨_, aAv (by wtm_at "m.put"), ?_⟩
   cases hb : l.all blankC with
   | true =>
    nofun
    refine aC5 ((h1 hb i x β' ν' hx q).mono fun v H' z => ?_) (by omega)
    obtain ⟨rfl, β2, ν2, rfl, z⟩ := z
    nofun
    exact aAd ⟨_, β2, ν2, rfl, rfl, z⟩
   | false =>
    nofun
    refine aC5 ((h2 hb i x β' ν' hx q).mono fun v H' z => ?_) (by omega)
    obtain ⟨rfl, β2, ν2, rfl, z⟩ := z
    nofun
    exact aAd ⟨_, β2, ν2, rfl, rfl, z⟩
  ·rintro _ _ ⟨w, β', ν', rfl, rfl, q⟩
   refine aAg (aA1 (h β' ν' ?_))
   rw [show (chL l).length = l.length by simp [chL]] at q
   exact q
theorem aK0 {kd : Str} {r : List AV} {n : Nat} (hk : kd ≠ oS "char") (h : Cl Γ (n + 5) (.ref 384) [.ref .bld] (BH X β ν) (fun v H' => v = .none ∧ ∃ β' ν', H' = BH X β' ν' ∧ Cl Γ (n + 5) (.ref 688) [.ref .bld, .tup (.str kd :: r)] (BH X { β' with mode := β'.orig } ν') (Ret0 Q))) :
  Cd Γ (n + 6) (.ref 391) [.ref .bld, .tup (.str kd :: r)] (BH X β ν) Q := by
 refine aHc fun P => ?_
 nofun
 refine h.mono fun v H' q => ?_
 obtain ⟨rfl, β', ν', rfl, q⟩ := q
 nofun
 refine q.mono fun v H' q => ?_
 obtain ⟨rfl, q⟩ := q
 nofun
 exact aA1 q
structure Sp where
 ts : List Tr
 outs : List Tr
 es : List (Str × Str)
 L : List (List (Str × Str))
 fo : Bool
noncomputable abbrev fmT (f : Fm) (ids : List Int) (ts : List Tr) : Fm := { f with ids := ids, ts := ts }
structure Sk (f0 : Fm) (R0 : List Fm) (bd0 : Fm) : Prop where
 fos : ∀ ids ts idb tsb, ∃ pre tb, Fos (fmT f0 ids ts) R0 pre tb (fmT bd0 idb tsb)
 part : isPart f0.nm = true
 tm : ∀ g ∈ f0 :: (R0 ++ [bd0]), g.nm ≠ oS "template"
 len : R0.length ≤ 4
 sign : signNames.any (isStr f0.nm) = true
theorem Sk.tm' {f0 : Fm} {R0 : List Fm} {bd0 : Fm} (s : Sk f0 R0 bd0) {ids : List Int} {ts : List Tr} {idb : List Int} {tsb : List Tr} : ∀ g ∈ fmT f0 ids ts :: (R0 ++ [fmT bd0 idb tsb]), g.nm ≠ oS "template" := by
 intro g hg
 rcases List.mem_cons.mp hg with rfl | hg
 ·exact s.tm f0 (.head _)
 ·rcases List.mem_append.mp hg with hg | hg
  ·exact s.tm g (.tail _ (List.mem_append_left _ hg))
  ·rw [List.mem_singleton.mp hg]; exact s.tm bd0 (.tail _ (List.mem_append_right _ (.head _)))
structure Rest (β : BS) (M : Str) (f0 : Fm) (R0 : List Fm) (bd0 : Fm) (m : Nat) (σ : Sp) : Prop where
 D : ∃ ids idb, Dc β (fmT f0 ids σ.ts) (R0 ++ [fmT bd0 idb σ.outs]) σ.L m
 es : β.errors = σ.es
 fo : β.form = -1 ↔ σ.fo = false
 mode : β.mode = M
 foster : β.foster = false
 pend : ∃ ps, β.pends = ps ++ [[]]
structure InTx (β : BS) (M : Str) (f0 : Fm) (R0 : List Fm) (bd0 : Fm) (m : Nat) (σ : Sp) (l : List Str) : Prop where
 D : ∃ ids idb, Dc β (fmT f0 ids σ.ts) (R0 ++ [fmT bd0 idb σ.outs]) σ.L m
 es : β.errors = σ.es
 fo : β.form = -1 ↔ σ.fo = false
 mode : β.mode = oS "in table text"
 orig : β.orig = M
 foster : β.foster = false
 pend : ∃ ps, β.pends = ps ++ [l]
def Gth (β : BS) (M : Str) (f0 : Fm) (R0 : List Fm) (bd0 : Fm) (m : Nat) (σ : Sp) : Option (List Str) → Prop
 | none => Rest β M f0 R0 bd0 m σ
 | some l => InTx β M f0 R0 bd0 m σ l
noncomputable abbrev sNul : Str := oS "\x00"
noncomputable abbrev eNul : Str × Str := (oS "unexpected-null-character", oS "in table text")
noncomputable abbrev eFos (M : Str) : Str × Str := (oS "foster-parented", M)
noncomputable def flushS (σ : Sp) : Option (List Str) → Sp
 | none => σ
 | some l => if l.all blankC = true then { σ with ts := l.foldl putT σ.ts } else { σ with outs := l.foldl putT σ.outs, es := σ.es ++ l.map fun _ => eFos (oS "in table text") }
def okSigns (l : List Str) : Prop := l.length ≤ 16 ∧ ∀ x ∈ l, x.length ≤ 2 ∧ x ≠ sNul
theorem aCk {l : List Str} {i : Nat} {x : Str} {ts : List Tr} (h : l[i]? = some x) : (l.take (i + 1)).foldl putT ts = putT ((l.take i).foldl putT ts) x := by
 rw [List.take_add_one, h, List.foldl_append]; rfl
theorem aE1 {l : List Str} {i : Nat} {x : Str} {e : Str × Str} (h : l[i]? = some x) : ((l.take (i + 1)).map fun _ => e) = ((l.take i).map fun _ => e) ++ [e] := by
 rw [List.take_add_one, h, List.map_append]; rfl
section
variable {M : Str} {f0 : Fm} {R0 : List Fm} {bd0 : Fm} {m : Nat} {σ : Sp} {g : Option (List Str)}
theorem Rest.tp (r : Rest β M f0 R0 bd0 m σ) (hm : m ≤ 90000) : ∃ k nk, Tp β k nk ∧ nk.name = f0.nm := by
 obtain ⟨ids, idb, D⟩ := r.D
 obtain ⟨n, t, hn⟩ := D.tp hm
 exact ⟨_, n, t, hn⟩
theorem InTx.tp {l : List Str} (r : InTx β M f0 R0 bd0 m σ l) (hm : m ≤ 90000) : ∃ k nk, Tp β k nk ∧ nk.name = f0.nm := by
 obtain ⟨ids, idb, D⟩ := r.D
 obtain ⟨n, t, hn⟩ := D.tp hm
 exact ⟨_, n, t, hn⟩
theorem aI3 {l : List Str} (sk : Sk f0 R0 bd0) (r : InTx β M f0 R0 bd0 m σ l) (hl : okSigns l) (hm : m ≤ 70000)
  (h : ∀ β' ν', Rest { β' with mode := β'.orig } M f0 R0 bd0 (m + 64) (flushS σ (some l)) → β'.ack = β.ack → Q .none (BH X β' ν')) : Cd Γ 14 (.ref 384) [.ref .bld] (BH X β ν) Q := by
 obtain ⟨ps, hp⟩ := r.pend
 obtain ⟨ids, idb, D⟩ := r.D
 have l16 := hl.1
 have lx : ∀ i x, l[i]? = some x → x.length ≤ 2 ∧ x ≠ sNul ∧ i < l.length := fun i x hx => ⟨(hl.2 x (List.mem_of_getElem? hx)).1, (hl.2 x (List.mem_of_getElem? hx)).2, (List.getElem?_eq_some_iff.mp hx).1⟩
 cases hb : l.all blankC with
 | true =>
  refine aL3 (n := 9) hp (fun i β' => (∃ ids idb, Dc β' (fmT f0 ids ((l.take i).foldl putT σ.ts)) (R0 ++ [fmT bd0 idb σ.outs]) σ.L (m + 4 * i)) ∧ β'.errors = σ.es ∧ β'.form = β.form ∧ β'.mode = β.mode ∧ β'.orig = β.orig ∧ β'.foster = false ∧ β'.pends = ps ++ [l, []] ∧ β'.ack = β.ack)
   (fun i β' q => q.2.2.2.2.2.2.1) ⟨⟨ids, idb, ?_⟩, r.es, rfl, rfl, rfl, r.foster, rfl, rfl⟩ (fun _ i x β' ν' hx q => ?_) (fun e => by rwa [hb] at e) fun β' ν' q => ?_
  ·have := D.pendNew
   rw [hp, List.append_assoc] at this
   exact this
  ·refine hZ fun GZ kZ => ?_
   obtain ⟨⟨ids', idb', D'⟩, q1, q2, q3, q4, q5, q6, q7⟩ := q
   obtain ⟨x1, x2, x3⟩ := lx i x hx
   refine kZ ?_
   refine Cd.less (d' := 4) (aCa D' (by exact zn [i, l.length, m] (.h 1 (.v 2) (.n 70000) (.h 4 (.v 1) (.n 16) (.h 4 (.a (.v 0) (.n 1)) (.v 1) .e))) (.a (.v 2) (.m 4 (.v 0))) (.n 80000) rfl hm l16 x3) (.inl q5) x1 fun N' ids2 ν2 D2 => ⟨rfl, _, ν2, rfl, ⟨ids2, idb', ?_⟩, q1, q2, q3, q4, q5, q6, q7⟩) (by omega)
   rw [aCk hx]
   exact D2.mono (by exact zn [m, i] .e (.a (.a (.v 0) (.m 4 (.v 1))) (.n 2)) (.a (.v 0) (.m 4 (.a (.v 1) (.n 1)))) rfl)
  ·refine hZ fun GZ kZ => ?_
   obtain ⟨⟨ids', idb', D'⟩, q1, q2, q3, q4, q5, q6, q7⟩ := q
   refine kZ ?_
   refine h β' ν' ⟨⟨ids', idb', ?_⟩, ?_, ?_, ?_, q5, ⟨ps ++ [l], by show β'.pends = _; rw [q6]; simp⟩⟩ q7
   ·rw [List.take_of_length_le (Nat.le_refl _)] at D'
    rw [flushS, if_pos hb]
    exact D'.mono (by exact oz32 l16)
   ·rw [flushS, if_pos hb]; exact q1
   ·rw [flushS, if_pos hb]; show β'.form = -1 ↔ _; rw [q2]; exact r.fo
   ·show β'.orig = M; rw [q4]; exact r.orig
 | false =>
  refine aL3 (n := 9) hp (fun i β' => (∃ ids idb, Dc β' (fmT f0 ids σ.ts) (R0 ++ [fmT bd0 idb ((l.take i).foldl putT σ.outs)]) σ.L (m + 4 * i)) ∧ β'.errors = σ.es ++ ((l.take i).map fun _ => eFos (oS "in table text")) ∧ β'.form = β.form ∧ β'.mode = β.mode ∧ β'.orig = β.orig ∧ β'.foster = false ∧ β'.pends = ps ++ [l, []] ∧ β'.ack = β.ack)
   (fun i β' q => q.2.2.2.2.2.2.1) ⟨⟨ids, idb, ?_⟩, by rw [List.take_zero, List.map_nil, List.append_nil]; exact r.es, rfl, rfl, rfl, r.foster, rfl, rfl⟩ (fun e => by rwa [hb] at e) (fun _ i x β' ν' hx q => ?_) fun β' ν' q => ?_
  ·have := D.pendNew
   rw [hp, List.append_assoc] at this
   exact this
  ·refine hZ fun GZ kZ => ?_
   obtain ⟨⟨ids', idb', D'⟩, q1, q2, q3, q4, q5, q6, q7⟩ := q
   obtain ⟨x1, x2, x3⟩ := lx i x hx
   refine kZ ?_
   refine Cd.less (d' := 8) (aBc (n := 6) (by have := D'.el; exact zn [β'.errors.length, m, i, l.length] (.h 1 (.v 1) (.n 70000) (.h 4 (.v 3) (.n 16) (.h 4 (.a (.v 2) (.n 1)) (.v 3) (.h 1 (.v 0) (.a (.v 1) (.m 4 (.v 2))) .e)))) (.v 0) (.n 1000000) rfl hm l16 x3 this) (aA4 (aC8 x2 ?_) rfl)) (by omega)
   have D1 : Dc { β' with errors := β'.errors ++ [(oS "foster-parented", β'.mode)], foster := true } (fmT f0 ids' σ.ts) (R0 ++ [fmT bd0 idb' ((l.take i).foldl putT σ.outs)]) σ.L (m + 4 * i + 1) := D'.err
   obtain ⟨pre, tb, F⟩ := sk.fos ids' σ.ts idb' ((l.take i).foldl putT σ.outs)
   refine Cd.less (d' := 4) (aJx D1 (by exact zn [i, l.length, m] (.h 1 (.v 2) (.n 70000) (.h 4 (.v 1) (.n 16) (.h 4 (.a (.v 0) (.n 1)) (.v 1) .e))) (.a (.a (.v 2) (.m 4 (.v 0))) (.n 1)) (.n 80000) rfl hm l16 x3) F rfl sk.part x1 fun N' ids2 ν2 D2 => ⟨rfl, rfl, _, ν2, rfl, rfl, _, ν2, rfl, ⟨ids', ids2, ?_⟩, ?_, q2, q3, q4, rfl, q6, q7⟩) (by omega)
   ·rw [aCk hx]
    exact D2.mono (by exact zn [m, i] .e (.a (.a (.a (.v 0) (.m 4 (.v 1))) (.n 1)) (.n 2)) (.a (.v 0) (.m 4 (.a (.v 1) (.n 1)))) rfl)
   ·show β'.errors ++ _ = _
    rw [aE1 hx, q1, q3, r.mode, List.append_assoc]
  ·refine hZ fun GZ kZ => ?_
   obtain ⟨⟨ids', idb', D'⟩, q1, q2, q3, q4, q5, q6, q7⟩ := q
   refine kZ ?_
   refine h β' ν' ⟨⟨ids', idb', ?_⟩, ?_, ?_, ?_, q5, ⟨ps ++ [l], by show β'.pends = _; rw [q6]; simp⟩⟩ q7
   ·rw [List.take_of_length_le (Nat.le_refl _)] at D'
    rw [flushS, if_neg (by rw [hb]; decide)]
    exact D'.mono (by exact oz32 l16)
   ·rw [flushS, if_neg (by rw [hb]; decide)]
    rw [List.take_of_length_le (Nat.le_refl _)] at q1
    exact q1
   ·rw [flushS, if_neg (by rw [hb]; decide)]; show β'.form = -1 ↔ _; rw [q2]; exact r.fo
   ·show β'.orig = M; rw [q4]; exact r.orig
theorem aEk {kd : Str} {r : List AV} {fM : Addr} (hk : kd ≠ oS "char") (sk : Sk f0 R0 bd0) (rl : Rl M fM) (G : Gth β M f0 R0 bd0 m σ g) (hl : ∀ l, g = some l → okSigns l) (hm : m ≤ 70000)
  (h : ∀ β' ν', Rest β' M f0 R0 bd0 (m + 64) (flushS σ g) → β'.ack = β.ack → Cl Γ 20 (.ref fM) [.ref .bld, .tup (.str kd :: r)] (BH X β' ν') (Ret0 Q)) : Cd Γ 40 (.ref 688) [.ref .bld, .tup (.str kd :: r)] (BH X β ν) (Ret0 Q) := by
 cases g with
 | none =>
  have R := G
  refine hZ fun GZ kZ => ?_
  obtain ⟨k, nk, t, _⟩ := R.tp (by omega)
  obtain ⟨ids, idb, D⟩ := R.D
  refine kZ ?_
  refine aAp t (by rw [R.mode]; exact rl) (n := 20) (by omega) ((h β ν ⟨⟨ids, idb, D.mono (by omega)⟩, R.es, R.fo, R.mode, R.foster, R.pend⟩ rfl).mono fun v H' q => ⟨q.1, rfl, q.2⟩)
 | some l =>
  have R := G
  obtain ⟨k, nk, t, _⟩ := R.tp (by omega)
  refine aAp t (by rw [R.mode]; exact aKk) (n := 34) (by omega) (aA4 (d' := 34) (aK0 (n := 28) hk (aA4 (aI3 sk R (hl l rfl) hm fun β' ν' R' ha => ⟨rfl, β', ν', rfl, ?_⟩) rfl)) rfl)
  obtain ⟨k', nk', t', _⟩ := R'.tp (by omega)
  refine aA4 (d' := 26) (aAp t' (by rw [R'.mode]; exact rl) (n := 20) (by omega) ((h _ ν' R' ha).mono fun v H' q => ⟨q.1, rfl, rfl, rfl, q.2⟩)) rfl
end
section
variable {M : Str} {fM : Addr} {f0 : Fm} {R0 : List Fm} {bd0 : Fm} {m : Nat} {σ : Sp} {g : Option (List Str)}
structure Md (M : Str) (fM : Addr) : Prop where
 rl : Rl M fM
 or : fM = 377 ∨ fM = 759
theorem Md.hand {tok : AV} (md : Md M fM) (hd : Handed tok) (h : Cl Γ 16 (.ref 377) [.ref .bld, tok] (BH X β ν) (Ret0 Q)) : Cl Γ 20 (.ref fM) [.ref .bld, tok] (BH X β ν) (Ret0 Q) := by
 rcases md.or with rfl | rfl
 ·exact h.less (by omega)
 ·exact aA4 (d' := 18) (aGt hd (h.mono fun v H' q => ⟨q.1, rfl, q.2⟩)) rfl
theorem Gth.ack (G : Gth β M f0 R0 bd0 m σ g) {a : Bool} : Gth { β with ack := a } M f0 R0 bd0 m σ g := by
 cases g with
 | none => exact ⟨G.D, G.es, G.fo, G.mode, G.foster, G.pend⟩
 | some l => exact ⟨G.D, G.es, G.fo, G.mode, G.orig, G.foster, G.pend⟩
structure Gp (β : BS) (M : Str) (fM : Addr) (f0 : Fm) (R0 : List Fm) (bd0 : Fm) (m : Nat) (σ : Sp) (g : Option (List Str)) : Prop where
 md : Md M fM
 sk : Sk f0 R0 bd0
 G : Gth β M f0 R0 bd0 m σ g
 ok : ∀ l, g = some l → okSigns l
 hm : m ≤ 60000
theorem aD6 {kd : Str} {r : List AV} (gp : Gp β M fM f0 R0 bd0 m σ g) (h1 : kd ≠ oS "start") (h2 : kd ≠ oS "char") (hd : Handed (.tup (.str kd :: r)))
  (h : ∀ β' ν', Rest β' M f0 R0 bd0 (m + 64) (flushS σ g) → Cl Γ 16 (.ref 377) [.ref .bld, .tup (.str kd :: r)] (BH X β' ν') (Ret0 Q)) : Cd Γ 42 (.ref 695) [.ref .bld, .tup (.str kd :: r)] (BH X β ν) Q :=
 aAl h1 (n := 40) (by omega) (aEk h2 gp.sk gp.md.rl gp.G.ack gp.ok (by have := gp.hm; omega) fun β' ν' R ha => gp.md.hand hd (h β' ν' R))
theorem aCi {nm : Str} {at_ : AV} {cl : Bool} (gp : Gp β M fM f0 R0 bd0 m σ g) (hn : nm ≠ oS "tr")
  (h : ∀ β' ν', Rest β' M f0 R0 bd0 (m + 64) (flushS σ g) → β'.ack = false → Cl Γ 16 (.ref 377) [.ref .bld, .tup [.str "start", .str nm, at_, .bool cl]] (BH X β' ν') (fun v H' => v = .none ∧ ∃ β2 ν2, H' = BH X β2 ν2 ∧ β2.errors.length ≤ 1000000 ∧ Q .none (BH X (finB β2 cl) ν2))) :
  Cd Γ 42 (.ref 695) [.ref .bld, .tup [.str "start", .str nm, at_, .bool cl]] (BH X β ν) Q :=
 aBv (n := 40) (by omega) ((aEk (Q := fun _ H' => ∃ β2 ν2, H' = BH X β2 ν2 ∧ β2.errors.length ≤ 1000000 ∧ Q .none (BH X (finB β2 cl) ν2)) (by decide +kernel) gp.sk gp.md.rl gp.G.ack gp.ok (by have := gp.hm; omega) fun β' ν' R ha => gp.md.hand (.st hn) (h β' ν' R ha)))
theorem aMl {x : Str} (gp : Gp β M fM f0 R0 bd0 m σ g) (hx : x.length ≤ 2) (h : ∀ β' ν', Rest β' M f0 R0 bd0 (m + 80) { flushS σ g with ts := (flushS σ g).ts ++ [.lf sComment x] } → Q .none (BH X β' ν')) :
  Cd Γ 42 (.ref 695) [.ref .bld, .tup [.str "comment", .str x]] (BH X β ν) Q :=
 aD6 gp (by decide +kernel) (by decide +kernel) (.oth (by decide +kernel) (by decide +kernel)) fun β' ν' R => by
  obtain ⟨ids, idb, D⟩ := R.D
  have hm := gp.hm
  refine aA4 (aGp (aEe D (by omega) (.inl R.foster) hx fun N' n' ν2 D2 => ⟨rfl, rfl, h _ ν2 ⟨⟨_, idb, D2.mono (by omega)⟩, R.es, R.fo, R.mode, R.foster, R.pend⟩⟩)) rfl
theorem aMm {r : List AV} (gp : Gp β M fM f0 R0 bd0 m σ g) (h : ∀ β' ν', Rest β' M f0 R0 bd0 (m + 80) { flushS σ g with es := (flushS σ g).es ++ [(oS "unexpected-doctype", M)] } → Q .none (BH X β' ν')) :
  Cd Γ 42 (.ref 695) [.ref .bld, .tup (.str "doctype" :: r)] (BH X β ν) Q :=
 aD6 gp (by decide +kernel) (by decide +kernel) (.oth (by decide +kernel) (by decide +kernel)) fun β' ν' R => by
  obtain ⟨ids, idb, D⟩ := R.D
  have hm := gp.hm
  refine aA4 (aGq (by have := D.el; omega) ⟨rfl, h _ ν' ⟨⟨ids, idb, D.err.mono (by omega)⟩, by show β'.errors ++ _ = _; rw [R.es, R.mode], R.fo, R.mode, R.foster, R.pend⟩⟩) rfl
theorem aOk {nm : Str} {r : List AV} (gp : Gp β M fM f0 R0 bd0 m σ g) (h1 : nm ≠ oS "table") (h2 : nm ≠ oS "template") (h3 : endErrs.any (isStr nm) = true) (h4 : [AV.str "tbody", .str "tr"].any (isStr nm) = false)
  (h : ∀ β' ν', Rest β' M f0 R0 bd0 (m + 80) { flushS σ g with es := (flushS σ g).es ++ [(oS "unexpected-end-tag", M)] } → Q .none (BH X β' ν')) : Cd Γ 42 (.ref 695) [.ref .bld, .tup (.str "end" :: .str nm :: r)] (BH X β ν) Q :=
 aD6 gp (by decide +kernel) (by decide +kernel) (.en h4) fun β' ν' R => by
  obtain ⟨ids, idb, D⟩ := R.D
  have hm := gp.hm
  refine aA4 (d' := 7) (aC9 (aA4 (aO2 h1 h2 h3 (by have := D.el; omega) ⟨rfl, rfl, h _ ν' ⟨⟨ids, idb, D.err.mono (by omega)⟩, by show β'.errors ++ _ = _; rw [R.es, R.mode], R.fo, R.mode, R.foster, R.pend⟩⟩) rfl)) rfl
theorem aFd {r : List AV} (gp : Gp β M fM f0 R0 bd0 m σ g) (h : ∀ β' ν', Rest β' M f0 R0 bd0 (m + 80) { flushS σ g with es := (flushS σ g).es ++ [(oS "told to the head's rule", M)] } → Q .none (BH X β' ν')) :
  Cd Γ 42 (.ref 695) [.ref .bld, .tup (.str "end" :: .str "template" :: r)] (BH X β ν) Q :=
 aD6 gp (by decide +kernel) (by decide +kernel) (.en (by decide +kernel)) fun β' ν' R => by
  obtain ⟨ids, idb, D⟩ := R.D
  have hm := gp.hm
  refine aA4 (d' := 9) (aC9 (aA4 (d' := 8) (aF8 (aA4 (aJs (by have := D.el; omega) ⟨rfl, rfl, rfl, h _ ν' ⟨⟨ids, idb, D.err.mono (by omega)⟩, by show β'.errors ++ _ = _; rw [R.es, R.mode], R.fo, R.mode, R.foster, R.pend⟩⟩) rfl)) rfl)) rfl
theorem aUt {r : List AV} (gp : Gp β M fM f0 R0 bd0 m σ g) (hp : f0.nm ≠ oS "p") (h : ∀ β' ν', Rest β' M f0 R0 bd0 (m + 80) { flushS σ g with es := (flushS σ g).es ++ [eFos M] } → Q .none (BH X β' ν')) :
  Cd Γ 42 (.ref 695) [.ref .bld, .tup (.str "end" :: .str "p" :: r)] (BH X β ν) Q :=
 aD6 gp (by decide +kernel) (by decide +kernel) (.en (by decide +kernel)) fun β' ν' R => by
  obtain ⟨ids, idb, D⟩ := R.D
  have hm := gp.hm
  have D1 : Dc { β' with errors := β'.errors ++ [(oS "foster-parented", β'.mode)], foster := true } (fmT f0 ids (flushS σ g).ts) (R0 ++ [fmT bd0 idb (flushS σ g).outs]) (flushS σ g).L (m + 65) := D.err
  obtain ⟨nk, t, hn⟩ := D1.tp (by omega)
  refine aA4 (d' := 10) (aC9 (aA4 (d' := 9) (aI2 (by decide +kernel) (by decide +kernel) (by decide +kernel) (aA4 (d' := 8) (aBc (by have := D.el; omega) (aA4 (aF7 t (by rw [hn]; exact Ne.symm hp) ⟨rfl, _, ν', rfl, rfl, rfl, rfl, h _ ν' ⟨⟨ids, idb, D1.mono (by omega)⟩, ?_, R.fo, R.mode, rfl, R.pend⟩⟩) rfl)) rfl)) rfl)) rfl
  show β'.errors ++ _ = _; rw [R.es, R.mode]
end
section
variable {M : Str} {fM : Addr} {f0 : Fm} {R0 : List Fm} {bd0 : Fm} {m : Nat} {σ : Sp} {g : Option (List Str)}
noncomputable abbrev sInput : Str := oS "input"
noncomputable abbrev eTag (M : Str) : Str × Str := (oS "unexpected-start-tag", M)
noncomputable abbrev eSol (M : Str) : Str × Str := (oS "non-void-html-element-start-tag-with-trailing-solidus", M)
noncomputable def spL (fo : Bool) (at_ : List (Str × Str)) : List (List (Str × Str)) := if fo then [at_] else []
theorem aG1 {at_ : List (Str × Str)} {fo : Bool} (h : β.form = -1 ↔ fo = false) : ownL β.form sInput at_ = spL fo at_ := by
 unfold ownL spL
 cases fo with
 | false => rw [if_neg (fun q => q.1 (h.mpr rfl))]; rfl
 | true => rw [if_pos ⟨fun e => absurd (h.mp e) (by decide), rfl⟩]; rfl
theorem aDn {at_ : List (Str × Str)} {nm : Str} {i : Int} (h : nm ≠ sInput) : ownL i nm at_ = [] := if_neg fun q => h q.2
theorem aL6 {cl : Bool} {β2 : BS} (ha : β2.ack = true) (h : Q .none (BH X β2 ν)) : Q .none (BH X (finB β2 cl) ν) := by
 have e : finB β2 cl = β2 := if_neg (by rw [ha]; simp)
 rw [e]; exact h
theorem aB2 {β2 : BS} (h : Q .none (BH X β2 ν)) : Q .none (BH X (finB β2 false) ν) := h
theorem aIl {β2 : BS} (ha : β2.ack = false) (h : Q .none (BH X { β2 with errors := β2.errors ++ [eSol β2.mode] } ν)) : Q .none (BH X (finB β2 true) ν) := by
 have e : finB β2 true = { β2 with errors := β2.errors ++ [eSol β2.mode] } := if_pos (by rw [ha]; rfl)
 rw [e]; exact h
theorem aIg {kd nm : Str} {at_ : List (Str × Str)} {r : List AV} {f : Fm} {R : List Fm} {L : List (List (Str × Str))} {m : Nat} (D : Dc β f R L m) (hm : m ≤ 80000) (hf : β.foster = false ∨ isPart f.nm = false) (t : LfTok f R nm at_)
  (h : ∀ N' c' e' (n' : Nat) oe' ν', Dc { β with nodes := N', cont := c', contE := e', owners := ownI β.owners β.form n' nm, ownE := oe', ack := true } (f.add n' (.el nm at_ [])) R (L ++ ownL β.form nm at_) (m + 3) →
   Q (.int n') (BH X { β with nodes := N', cont := c', contE := e', owners := ownI β.owners β.form n' nm, ownE := oe', ack := true } ν')) : Cd Γ 6 (.ref 131) [.ref .bld, .tup (.str kd :: .str nm :: .tup (pairL at_) :: r)] (BH X β ν) Q := by
 refine aLa fun P => ?_
 nofun
 refine aA4 (aDj D hm hf t fun N' c' e' n' oe' ν' D' _ => ?_) rfl
 have hl : ({ β with nodes := N', cont := c', contE := e', owners := ownI β.owners β.form n' nm, ownE := oe', items := β.items ++ [(n' : Int)] } : BS).items.getLast? = some (n' : Int) := by simp
 have hz : ({ β with nodes := N', cont := c', contE := e', owners := ownI β.owners β.form n' nm, ownE := oe', items := β.items ++ [(n' : Int)] } : BS).items.length ≤ 1000000 := by have := D.ilen; simp; omega
 nofun
 refine aA3 ?_
 have := h N' c' e' n' oe' ν' D'
 have e9 : (β.items ++ [(n' : Int)]).dropLast = β.items := by simp
 rw [e9]; exact this
theorem aK2 {kd nm : Str} {at_ : List (Str × Str)} {r : List AV} {f : Fm} {R0 pre : List Fm} {tb bd : Fm} {L : List (List (Str × Str))} {m : Nat} (D : Dc β f (R0 ++ [bd]) L m) (hm : m ≤ 80000) (F : Fos f R0 pre tb bd) (hf : β.foster = true) (hp : isPart f.nm = true) (t : LfTok f (R0 ++ [bd]) nm at_)
  (h : ∀ N' c' e' (n' : Nat) oe' ν', Dc { β with nodes := N', cont := c', contE := e', owners := ownI β.owners β.form n' nm, ownE := oe', ack := true } f (R0 ++ [bd.add n' (.el nm at_ [])]) (L ++ ownL β.form nm at_) (m + 3) →
   Q (.int n') (BH X { β with nodes := N', cont := c', contE := e', owners := ownI β.owners β.form n' nm, ownE := oe', ack := true } ν')) : Cd Γ 6 (.ref 131) [.ref .bld, .tup (.str kd :: .str nm :: .tup (pairL at_) :: r)] (BH X β ν) Q := by
 refine aLa fun P => ?_
 nofun
 refine aA4 (aGr D hm F hf hp t fun N' c' e' n' oe' ν' D' => ?_) rfl
 have hl : ({ β with nodes := N', cont := c', contE := e', owners := ownI β.owners β.form n' nm, ownE := oe', items := β.items ++ [(n' : Int)] } : BS).items.getLast? = some (n' : Int) := by simp
 have hz : ({ β with nodes := N', cont := c', contE := e', owners := ownI β.owners β.form n' nm, ownE := oe', items := β.items ++ [(n' : Int)] } : BS).items.length ≤ 1000000 := by have := D.ilen; simp; omega
 nofun
 refine aA3 ?_
 have := h N' c' e' n' oe' ν' D'
 have e9 : (β.items ++ [(n' : Int)]).dropLast = β.items := by simp
 rw [e9]; exact this
structure AtOk (at_ : List (Str × Str)) : Prop where
 a : ∀ q ∈ at_, q.1 ≠ oS "form"
 l : at_.length ≤ 100000
theorem AtOk.lf {nm : Str} {at_ : List (Str × Str)} {f0 : Fm} {R0 : List Fm} {bd0 : Fm} {ids idb : List Int} {ts tsb : List Tr} (a : AtOk at_) (sk : Sk f0 R0 bd0) (hn : nm = sInput ∨ owns.any (isStr nm) = false) : LfTok (fmT f0 ids ts) (R0 ++ [fmT bd0 idb tsb]) nm at_ := ⟨sk.tm', hn, a.a, a.l⟩
theorem aOl {at_ : List (Str × Str)} {x : Str} (gp : Gp β M fM f0 R0 bd0 m σ g) (ao : AtOk at_) (hv : valA at_ (oS "type") = .str x) (ha : x.cps.toList.all (fun c => decide (c ≤ 127)) = true) (hl : x.cps.toList.length ≤ 1000) (hx : lowT x = oS "hidden")
  (h : ∀ β' ν', Rest β' M f0 R0 bd0 (m + 80) { flushS σ g with es := (flushS σ g).es ++ [eTag M], ts := (flushS σ g).ts ++ [.el sInput at_ []], L := (flushS σ g).L ++ spL (flushS σ g).fo at_ } → Q .none (BH X β' ν')) :
  Cd Γ 42 (.ref 695) [.ref .bld, .tup [.str "start", .str sInput, .tup (pairL at_), .bool true]] (BH X β ν) Q :=
 aCi gp (by decide +kernel) fun β' ν' R hack => by
  obtain ⟨ids, idb, D⟩ := R.D
  have hm := gp.hm
  have D1 : Dc { β' with errors := β'.errors ++ [(oS "unexpected-start-tag", β'.mode)] } (fmT f0 ids (flushS σ g).ts) (R0 ++ [fmT bd0 idb (flushS σ g).outs]) (flushS σ g).L (m + 65) := D.err
  refine aA4 (d' := 9) (aAr (aA4 (d' := 8) (aEj (aA4 (aEh hv ha hl hx (by have := D.el; omega) fun ν2 => aIg D1 (by omega) (.inl R.foster) (ao.lf gp.sk (.inl rfl)) fun N' c' e' n' oe' ν3 D2 => ⟨⟨_, rfl⟩, rfl, rfl, rfl, _, ν3, rfl, ?_, ?_⟩) rfl)) rfl)) rfl
  ·have := D1.el
   show (β'.errors ++ [_]).length ≤ _
   have q : (β'.errors ++ [(oS "unexpected-start-tag", β'.mode)]).length ≤ m + 65 := this
   omega
  ·refine aL6 rfl (h _ ν3 ⟨⟨ids ++ [(n' : Int)], idb, ?_⟩, ?_, R.fo, R.mode, R.foster, R.pend⟩)
   ·have e := aG1 (at_ := at_) R.fo
    rw [show ({ β' with errors := β'.errors ++ [(oS "unexpected-start-tag", β'.mode)] } : BS).form = β'.form from rfl, e] at D2
    exact D2.mono (by omega)
   ·show β'.errors ++ _ = _; rw [R.es, R.mode]
theorem aT9 {nm : Str} {at_ : List (Str × Str)} (gp : Gp β M fM f0 R0 bd0 m σ g) (ao : AtOk at_) (hn : nm = sInput ∨ owns.any (isStr nm) = false) (htr : nm ≠ oS "tr") (hv : [AV.str "input", .str "br"].any (isStr nm) = true)
  (way : ∀ (β' : BS) (ν' : Nat) (Q' : AV → AH → Prop), (∀ ν2, Cl Γ 9 (.ref 314) [.ref .bld, .tup [.str "start", .str nm, .tup (pairL at_), .bool true]] (BH X β' ν2) (Ret0 Q')) → Cl Γ 16 (.ref 377) [.ref .bld, .tup [.str "start", .str nm, .tup (pairL at_), .bool true]] (BH X β' ν') (Ret0 Q'))
  (h : ∀ β' ν', Rest β' M f0 R0 bd0 (m + 80) { flushS σ g with es := (flushS σ g).es ++ [eFos M], outs := (flushS σ g).outs ++ [.el nm at_ []], L := (flushS σ g).L ++ (if nm = sInput then spL (flushS σ g).fo at_ else []) } → Q .none (BH X β' ν')) :
  Cd Γ 42 (.ref 695) [.ref .bld, .tup [.str "start", .str nm, .tup (pairL at_), .bool true]] (BH X β ν) Q :=
 aCi gp htr fun β' ν' R hack => by
  obtain ⟨ids, idb, D⟩ := R.D
  have hm := gp.hm
  have D1 : Dc { β' with errors := β'.errors ++ [(oS "foster-parented", β'.mode)], foster := true } (fmT f0 ids (flushS σ g).ts) (R0 ++ [fmT bd0 idb (flushS σ g).outs]) (flushS σ g).L (m + 65) := D.err
  obtain ⟨pre, tb, F⟩ := gp.sk.fos ids (flushS σ g).ts idb (flushS σ g).outs
  refine (way β' ν' (fun _ H' => ∃ β2 ν2, H' = BH X β2 ν2 ∧ β2.errors.length ≤ 1000000 ∧ Q .none (BH X (finB β2 true) ν2)) fun ν2 => aA4 (d' := 9) (aBc (n := 7) (by have := D.el; omega) (aA4 (aI1 hv (aK2 D1 (by omega) F rfl gp.sk.part (ao.lf gp.sk hn) fun N' c' e' n' oe' ν3 D2 => ⟨⟨_, rfl⟩, rfl, _, ν3, rfl, rfl, _, ν3, rfl, ?_, ?_⟩)) rfl)) rfl).mono fun v H' q => q
  ·have q : (β'.errors ++ [(oS "foster-parented", β'.mode)]).length ≤ m + 65 := D1.el
   show (β'.errors ++ [_]).length ≤ _
   omega
  ·refine aL6 rfl (h _ ν3 ⟨⟨ids, idb ++ [(n' : Int)], ?_⟩, ?_, R.fo, R.mode, rfl, R.pend⟩)
   ·have e : ownL ({ β' with errors := β'.errors ++ [(oS "foster-parented", β'.mode)], foster := true } : BS).form nm at_ = (if nm = sInput then spL (flushS σ g).fo at_ else []) := by
     by_cases q : nm = sInput
     ·subst q; rw [if_pos rfl]; exact aG1 R.fo
     ·rw [if_neg q]; exact aDn q
    rw [e] at D2
    exact D2.mono (by omega)
   ·show β'.errors ++ _ = _; rw [R.es, R.mode]
theorem aUv {nm : Str} {at_ : List (Str × Str)} (gp : Gp β M fM f0 R0 bd0 m σ g) (ao : AtOk at_) (h0 : nm ≠ oS "tr") (h1 : [AV.str "caption", .str "colgroup", .str "col", .str "tbody", .str "tfoot", .str "thead", .str "td", .str "th", .str "tr"].any (isStr nm) = false) (h2 : nm ≠ oS "table")
  (h3 : [AV.str "style", .str "script", .str "template"].any (isStr nm) = true) (h4 : owns.any (isStr nm) = false) (h5 : nm ≠ sInput)
  (h : ∀ β' ν', Rest β' M f0 R0 bd0 (m + 80) { flushS σ g with ts := (flushS σ g).ts ++ [.el nm at_ []] } → Q .none (BH X β' ν')) :
  Cd Γ 42 (.ref 695) [.ref .bld, .tup [.str "start", .str nm, .tup (pairL at_), .bool false]] (BH X β ν) Q :=
 aCi gp h0 fun β' ν' R hack => by
  obtain ⟨ids, idb, D⟩ := R.D
  have hm := gp.hm
  refine aA4 (d' := 9) (aAr (aA4 (d' := 8) (aMh h1 h2 h3 (aA4 (aGm (aDj D (by omega) (.inl R.foster) (ao.lf gp.sk (.inr h4)) fun N' c' e' n' oe' ν3 D2 _ => ⟨⟨_, rfl⟩, _, ν3, (n' : Int), rfl, by simp, by have := D.ilen; simp; omega, rfl, rfl, rfl, _, ν3, rfl, ?_, ?_⟩)) rfl)) rfl)) rfl
  ·show β'.errors.length ≤ _; have := D.el; omega
  ·have e9 : (β'.items ++ [(n' : Int)]).dropLast = β'.items := by simp
   refine aB2 (h _ ν3 ⟨⟨ids ++ [(n' : Int)], idb, ?_⟩, R.es, R.fo, R.mode, R.foster, R.pend⟩)
   show DcP _ _ (β'.items ++ [(n' : Int)]).dropLast _ _ _ _ _ _ _ _
   rw [e9]
   have D3 := D2.mono (m' := m + 80) (by omega)
   rw [aDn h5, List.append_nil] at D3
   exact D3
theorem aUu {at_ : List (Str × Str)} {cl : Bool} (gp : Gp β M fM f0 R0 bd0 m σ g) (ao : AtOk at_)
  (h : ∀ β' ν', Rest β' M f0 R0 bd0 (m + 80) { flushS σ g with es := (flushS σ g).es ++ [eTag M] ++ (if cl then [eSol M] else []), ts := if (flushS σ g).fo then (flushS σ g).ts else (flushS σ g).ts ++ [.el (oS "form") at_ []], fo := true } → Q .none (BH X β' ν')) :
  Cd Γ 42 (.ref 695) [.ref .bld, .tup [.str "start", .str "form", .tup (pairL at_), .bool cl]] (BH X β ν) Q :=
 aCi gp (by decide +kernel) fun β' ν' R hack => by
  obtain ⟨ids, idb, D⟩ := R.D
  have hm := gp.hm
  have D1 : Dc { β' with errors := β'.errors ++ [(oS "unexpected-start-tag", β'.mode)] } (fmT f0 ids (flushS σ g).ts) (R0 ++ [fmT bd0 idb (flushS σ g).outs]) (flushS σ g).L (m + 65) := D.err
  have el : (β'.errors ++ [(oS "unexpected-start-tag", β'.mode)]).length ≤ m + 65 := D1.el
  have es : β'.errors ++ [(oS "unexpected-start-tag", β'.mode)] = (flushS σ g).es ++ [eTag M] := by rw [R.es, R.mode]
  have no : owns.any (isStr (oS "form")) = false := by decide +kernel
  cases hfo : (flushS σ g).fo with
  | false =>
   have hf : β'.form = -1 := R.fo.mpr hfo
   refine aA4 (d' := 8) (aAr (aA4 (d' := 7) (aFv (aA4 (aGl hf (by have := D.el; omega) (D.isOpen (by omega) gp.sk.tm') (aDj D1 (by omega) (.inl R.foster) (ao.lf gp.sk (.inr no)) fun N' c' e' n' oe' ν3 D2 nn => ⟨(n' : Int), _, ν3, (n' : Int), rfl, rfl, by simp, by have := D.ilen; simp; omega, rfl, rfl, rfl, _, ν3, rfl, ?_, ?_⟩)) rfl)) rfl)) rfl
   ·show (β'.errors ++ [_]).length ≤ _; omega
   ·have e9 : (β'.items ++ [(n' : Int)]).dropLast = β'.items := by simp
    have D3 := D2.mono (m' := m + 79) (by omega)
    rw [aDn (by decide +kernel), List.append_nil] at D3
    have D4 := D3.mono (m' := m + 79) (Nat.le_refl _)
    have D5 : DcP N' c' β'.items (β'.errors ++ [(oS "unexpected-start-tag", β'.mode)]) (ownI β'.owners β'.form n' (oS "form")) β'.pends (n' : Int) ((fmT f0 ids (flushS σ g).ts).add n' (.el (oS "form") at_ [])) (R0 ++ [fmT bd0 idb (flushS σ g).outs]) (flushS σ g).L (m + 79) :=
     ⟨D4.dn, D4.its, D4.nxt, D4.len, D4.desc, D4.kids, D4.el, D4.cl, D4.clt, D4.cf, D4.ol, D4.olt, D4.pl, D4.rl, D4.os, .inr nn⟩
    have fo' : ((n' : Int) = -1 ↔ true = false) := by constructor <;> intro q <;> first | omega | cases q
    cases cl with
    | false =>
     refine aB2 (h _ ν3 ⟨⟨ids ++ [(n' : Int)], idb, ?_⟩, ?_, fo', R.mode, R.foster, R.pend⟩)
     ·rw [hfo]
      show DcP _ _ (β'.items ++ [(n' : Int)]).dropLast _ _ _ _ _ _ _ _
      rw [e9]; exact D5.mono (by omega)
     ·show β'.errors ++ _ = _; rw [es]; simp
    | true =>
     refine aIl hack (h _ ν3 ⟨⟨ids ++ [(n' : Int)], idb, ?_⟩, ?_, fo', R.mode, R.foster, R.pend⟩)
     ·rw [hfo]
      show DcP _ _ (β'.items ++ [(n' : Int)]).dropLast _ _ _ _ _ _ _ _
      rw [e9]; exact D5.err.mono (by omega)
     ·show (β'.errors ++ _) ++ [eSol β'.mode] = _; rw [es, R.mode]; simp
  | true =>
   have hf : β'.form ≠ -1 := fun e => by have := R.fo.mp e; rwa [hfo] at this
   have fo' : (β'.form = -1 ↔ true = false) := ⟨fun q => absurd q hf, fun q => by cases q⟩
   refine aA4 (d' := 8) (aAr (aA4 (d' := 7) (aFv (aA4 (aI4 hf (by have := D.el; omega) ⟨rfl, rfl, rfl, _, ν', rfl, ?_, ?_⟩) rfl)) rfl)) rfl
   ·show (β'.errors ++ [_]).length ≤ _; omega
   ·cases cl with
    | false =>
     refine aB2 (h _ ν' ⟨⟨ids, idb, ?_⟩, ?_, fo', R.mode, R.foster, R.pend⟩)
     ·rw [hfo]; exact D1.mono (by omega)
     ·show β'.errors ++ _ = _; rw [es]; simp
    | true =>
     refine aIl hack (h _ ν' ⟨⟨ids, idb, ?_⟩, ?_, fo', R.mode, R.foster, R.pend⟩)
     ·rw [hfo]; exact D1.err.mono (by omega)
     ·show (β'.errors ++ _) ++ [eSol β'.mode] = _; rw [es, R.mode]; simp
end
section
variable {M : Str} {fM : Addr} {f0 : Fm} {R0 : List Fm} {bd0 : Fm} {m : Nat} {σ : Sp} {g : Option (List Str)}
theorem Cl.dup {f : Value} {args : List AV} (h : Cl Γ d f args H (Ret0 Q)) : Cl Γ d f args H (Ret0 (Ret0 Q)) := h.mono fun v H' q => ⟨q.1, rfl, q.2⟩
noncomputable def getC (g : Option (List Str)) (x : Str) : Option (List Str) := some (g.getD [] ++ (if x = sNul then [] else [x]))
noncomputable def getE (σ : Sp) (x : Str) : Sp := if x = sNul then { σ with es := σ.es ++ [eNul] } else σ
theorem aUs {x : Str} (gp : Gp β M fM f0 R0 bd0 m σ g) (h : ∀ β' ν', Gth β' M f0 R0 bd0 (m + 2) (getE σ x) (getC g x) → Q .none (BH X β' ν')) : Cd Γ 42 (.ref 695) [.ref .bld, .tup [.str "char", .str x]] (BH X β ν) Q := by
 have hm := gp.hm
 have tx : ∀ (β1 : BS) (ν1 : Nat) (l : List Str) (Q' : AV → AH → Prop), InTx β1 M f0 R0 bd0 m σ l → (∀ β' ν', InTx β' M f0 R0 bd0 (m + 2) (getE σ x) (l ++ (if x = sNul then [] else [x])) → Q' .none (BH X β' ν')) → Cd Γ 6 (.ref 391) [.ref .bld, .tup [.str "char", .str x]] (BH X β1 ν1) Q' := fun β1 ν1 l Q' R hq => by
  refine hZ fun GZ kZ => ?_
  obtain ⟨ids, idb, D⟩ := R.D
  obtain ⟨ps, hp⟩ := R.pend
  have hl : l.length ≤ m := D.pl l (by rw [hp]; simp)
  by_cases c : x = sNul
  ·subst c
   refine kZ ?_
   refine aK1 (by have := D.el; omega) (hq _ ν1 ?_)
   rw [getE, if_pos rfl, if_pos rfl, List.append_nil]
   exact ⟨⟨ids, idb, D.err.mono (by omega)⟩, by show β1.errors ++ _ = _; rw [R.es, R.mode], R.fo, R.mode, R.orig, R.foster, ps, hp⟩
  ·refine kZ ?_
   refine aIe c hp (by omega) (hq _ ν1 ?_)
   rw [getE, if_neg c, if_neg c]
   refine ⟨⟨ids, idb, ?_⟩, R.es, R.fo, R.mode, R.orig, R.foster, ps, rfl⟩
   have := D.pendSet (k := β1.pends.length - 1) (l := l ++ [x]) (by simp; omega)
   rw [aLi hp] at this
   exact this.mono (by omega)
 have G := gp.G.ack (a := false)
 refine aAl (by decide +kernel) (n := 40) (by omega) ?_
 cases g with
 | none =>
  have R : Rest _ M f0 R0 bd0 m σ := G
  refine hZ fun GZ kZ => ?_
  obtain ⟨ids, idb, D⟩ := R.D
  obtain ⟨k, nk, t, hn⟩ := R.tp (by omega)
  obtain ⟨ps, hp⟩ := R.pend
  have s1 : Cd Γ 6 (.ref 391) [.ref .bld, .tup [.str "char", .str x]] (BH X { β with ack := false, pends := β.pends ++ [[]], orig := β.mode, mode := oS "in table text" } ν) (Ret0 Q) := tx _ ν [] _ ⟨⟨ids, idb, D.pendNew⟩, R.es, R.fo, rfl, R.mode, R.foster, _, rfl⟩ fun β' ν' R' => ⟨rfl, h β' ν' R'⟩
  have s2 : Cd Γ 13 (.ref 370) [.ref .bld, .tup [.str "char", .str x]] (BH X { β with ack := false } ν) (Ret0 Q) := aMg t (by rw [hn]; exact gp.sk.sign) (aA4 s1 rfl).dup
  have s3 : Cd Γ 14 (.ref 377) [.ref .bld, .tup [.str "char", .str x]] (BH X { β with ack := false } ν) (Ret0 Q) := aFt (aA4 s2 rfl).dup
  have s4 : Cl Γ 20 (.ref fM) [.ref .bld, .tup [.str "char", .str x]] (BH X { β with ack := false } ν) (Ret0 Q) := gp.md.hand (.oth (by decide +kernel) (by decide +kernel)) (aA4 s3 rfl)
  refine kZ ?_
  exact aAp t (by rw [R.mode]; exact gp.md.rl) (n := 20) (by omega) s4.dup
 | some l =>
  have R : InTx _ M f0 R0 bd0 m σ l := G
  obtain ⟨k, nk, t, hn⟩ := R.tp (by omega)
  have s1 : Cd Γ 6 (.ref 391) [.ref .bld, .tup [.str "char", .str x]] (BH X { β with ack := false } ν) (Ret0 Q) := tx _ ν l _ R fun β' ν' R' => ⟨rfl, h β' ν' R'⟩
  exact aAp t (by rw [R.mode]; exact aKk) (n := 6) (by omega) (aA4 s1 rfl).dup
noncomputable abbrev sB : Str := oS "b"
noncomputable abbrev bFm (nb : Nat) (p : Int) (at_ : List (Str × Str)) (ib : List Int) (tb : List Tr) : Fm := ⟨nb, p, sB, at_, ib, tb, []⟩
structure BOp (β : BS) (M : Str) (f0 : Fm) (R0 : List Fm) (bd0 : Fm) (m : Nat) (σ : Sp) (at_ : List (Str × Str)) (tb : List Tr) : Prop where
 D : ∃ ids idb nb ib, Dc β (bFm nb bd0.id at_ ib tb) (fmT f0 ids σ.ts :: (R0 ++ [{ fmT bd0 idb σ.outs with nxt := (nb : Int) :: bd0.nxt }])) σ.L m
 es : β.errors = σ.es
 fo : β.form = -1 ↔ σ.fo = false
 mode : β.mode = M
 foster : β.foster = false
 pend : ∃ ps, β.pends = ps ++ [[]]
theorem aOj {at_ : List (Str × Str)} (gp : Gp β M fM f0 R0 bd0 m σ g) (ao : AtOk at_) (h : ∀ β' ν', BOp β' M f0 R0 bd0 (m + 80) { flushS σ g with es := (flushS σ g).es ++ [eFos M] } at_ [] → Q .none (BH X β' ν')) :
  Cd Γ 42 (.ref 695) [.ref .bld, .tup [.str "start", .str sB, .tup (pairL at_), .bool false]] (BH X β ν) Q :=
 aCi gp (by decide +kernel) fun β' ν' R hack => by
  refine hZ fun GZ kZ => ?_
  obtain ⟨ids, idb, D⟩ := R.D
  have hm := gp.hm
  have D1 : Dc { β' with errors := β'.errors ++ [(oS "foster-parented", β'.mode)], foster := true } (fmT f0 ids (flushS σ g).ts) (R0 ++ [fmT bd0 idb (flushS σ g).outs]) (flushS σ g).L (m + 65) := D.err
  obtain ⟨pre, tb, F⟩ := gp.sk.fos ids (flushS σ g).ts idb (flushS σ g).outs
  refine kZ ?_
  let Qs : AV → AH → Prop := fun _ H' => ∃ β2 ν2, H' = BH X β2 ν2 ∧ β2.errors.length ≤ 1000000 ∧ Q .none (BH X (finB β2 false) ν2)
  have s0 : Cl Γ 7 (.ref 745) [.ref .bld, .tup [.str "start", .str sB, .tup (pairL at_), .bool false]] (BH X { β' with errors := β'.errors ++ [(oS "foster-parented", β'.mode)], foster := true } ν') (fun v H' => v = .none ∧ ∃ β' ν', H' = BH X β' ν' ∧ Ret0 Qs .none (BH X { β' with foster := false } ν')) := by
   refine aA4 (aI0 (by decide +kernel) (by decide +kernel) (aGs D1 (by omega) (by have := gp.sk.len; omega) F rfl gp.sk.part (ao.lf gp.sk (.inr (by decide +kernel))) ⟨by decide +kernel, by decide +kernel⟩ fun N' n' e' ν3 D2 => ⟨⟨_, rfl⟩, rfl, _, ν3, rfl, rfl, _, ν3, rfl, ?_, ?_⟩)) rfl
   ·have q : (β'.errors ++ [(oS "foster-parented", β'.mode)]).length ≤ m + 65 := D1.el
    show (β'.errors ++ [_]).length ≤ _
    omega
   ·refine aB2 (h _ ν3 ⟨⟨ids, idb, n', [], D2.mono (by omega)⟩, ?_, R.fo, R.mode, rfl, R.pend⟩)
    show β'.errors ++ _ = _; rw [R.es, R.mode]
  have s1 : Cd Γ 9 (.ref 314) [.ref .bld, .tup [.str "start", .str sB, .tup (pairL at_), .bool false]] (BH X β' ν') (Ret0 Qs) := aBc (n := 7) (by have := D.el; omega) s0
  have s2 : Cd Γ 10 (.ref 356) [.ref .bld, .tup [.str "start", .str sB, .tup (pairL at_), .bool false]] (BH X β' ν') (Ret0 Qs) := aIc (n := 9) (by decide +kernel) (by decide +kernel) (by decide +kernel) (by decide +kernel) (by decide +kernel) (aA4 s1 rfl).dup
  have s3 : Cd Γ 11 (.ref 377) [.ref .bld, .tup [.str "start", .str sB, .tup (pairL at_), .bool false]] (BH X β' ν') (Ret0 Qs) := aAr (n := 10) (aA4 s2 rfl).dup
  exact aA4 s3 rfl
theorem BOp.tp {at_ : List (Str × Str)} {tb : List Tr} (r : BOp β M f0 R0 bd0 m σ at_ tb) (hm : m ≤ 90000) : ∃ k nk, Tp β k nk ∧ nk.name = sB := by
 obtain ⟨ids, idb, nb, ib, D⟩ := r.D
 obtain ⟨n, t, hn⟩ := D.tp hm
 exact ⟨_, n, t, hn⟩
theorem aQo {x : Str} {at_ : List (Str × Str)} {tb : List Tr} (md : Md M fM) (r : BOp β M f0 R0 bd0 m σ at_ tb) (hm : m ≤ 70000) (hx : x.length ≤ 2)
  (h : ∀ β' ν', BOp β' M f0 R0 bd0 (m + 4) { σ with es := σ.es ++ [eFos M] } at_ (if x = sNul then tb else putT tb x) → Q .none (BH X β' ν')) : Cd Γ 42 (.ref 695) [.ref .bld, .tup [.str "char", .str x]] (BH X β ν) Q := by
 refine aAl (by decide +kernel) (n := 40) (by omega) ?_
 have R : BOp { β with ack := false } M f0 R0 bd0 m σ at_ tb := ⟨r.D, r.es, r.fo, r.mode, r.foster, r.pend⟩
 refine hZ fun GZ kZ => ?_
 obtain ⟨k, nk, t, hn⟩ := R.tp (by omega)
 obtain ⟨ids, idb, nb, ib, D⟩ := R.D
 have D1 : Dc { β with ack := false, errors := β.errors ++ [(oS "foster-parented", β.mode)], foster := true } (bFm nb bd0.id at_ ib tb) (fmT f0 ids σ.ts :: (R0 ++ [{ fmT bd0 idb σ.outs with nxt := (nb : Int) :: bd0.nxt }])) σ.L (m + 1) := D.err
 have es : β.errors ++ [(oS "foster-parented", β.mode)] = σ.es ++ [eFos M] := by rw [r.es, r.mode]
 have s0 : Cl Γ 8 (.ref 745) [.ref .bld, .tup [.str "char", .str x]] (BH X { β with ack := false, errors := β.errors ++ [(oS "foster-parented", β.mode)], foster := true } ν) (fun v H' => v = .none ∧ ∃ β' ν', H' = BH X β' ν' ∧ Ret0 Q .none (BH X { β' with foster := false } ν')) := by
  by_cases c : x = sNul
  ·subst c
   refine aA4 (aEd ⟨rfl, _, ν, rfl, rfl, h _ ν ⟨⟨ids, idb, nb, ib, ?_⟩, es, r.fo, r.mode, rfl, r.pend⟩⟩) rfl
   rw [if_pos rfl]
   exact D1.mono (by omega)
  ·refine aA4 (aC8 c (Cd.less (d' := 4) (aCa D1 (by omega) (.inr (show isPart sB = false by decide +kernel)) hx fun N' ids' ν2 D2 => ⟨rfl, rfl, _, ν2, rfl, rfl, h _ ν2 ⟨⟨ids, idb, nb, ids', ?_⟩, es, r.fo, r.mode, rfl, r.pend⟩⟩) (by omega))) rfl
   rw [if_neg c]
   exact D2.mono (by omega)
 have s1 : Cd Γ 10 (.ref 314) [.ref .bld, .tup [.str "char", .str x]] (BH X { β with ack := false } ν) (Ret0 Q) := aBc (n := 8) (by show β.errors.length ≤ _; have q : β.errors.length ≤ m := D.el; omega) s0
 have s2 : Cd Γ 11 (.ref 370) [.ref .bld, .tup [.str "char", .str x]] (BH X { β with ack := false } ν) (Ret0 Q) := aGv (n := 8) t (by rw [hn]; decide +kernel) (aA4 s1 rfl).dup
 have s3 : Cd Γ 12 (.ref 377) [.ref .bld, .tup [.str "char", .str x]] (BH X { β with ack := false } ν) (Ret0 Q) := aFt (aA4 s2 rfl).dup
 have s4 : Cl Γ 20 (.ref fM) [.ref .bld, .tup [.str "char", .str x]] (BH X { β with ack := false } ν) (Ret0 Q) := md.hand (.oth (by decide +kernel) (by decide +kernel)) (aA4 s3 rfl)
 refine kZ ?_
 exact aAp t (by rw [R.mode]; exact md.rl) (n := 20) (by omega) s4.dup
theorem aUr {rr : List AV} {at_ : List (Str × Str)} {tb : List Tr} (md : Md M fM) (r : BOp β M f0 R0 bd0 m σ at_ tb) (hm : m ≤ 70000) (hn0 : f0.nxt = []) (hp : ∀ k ∈ f0 :: (R0 ++ [bd0]), k.par = 1 ∨ ∃ z ∈ f0 :: (R0 ++ [bd0]), k.par = z.id)
  (h : ∀ β' ν', Rest β' M f0 R0 bd0 (m + 4) { σ with es := σ.es ++ [eFos M], outs := σ.outs ++ [.el sB at_ tb] } → Q .none (BH X β' ν')) : Cd Γ 42 (.ref 695) [.ref .bld, .tup (.str "end" :: .str sB :: rr)] (BH X β ν) Q := by
 refine aAl (by decide +kernel) (n := 40) (by omega) ?_
 have R : BOp { β with ack := false } M f0 R0 bd0 m σ at_ tb := ⟨r.D, r.es, r.fo, r.mode, r.foster, r.pend⟩
 obtain ⟨k, nk, t, hn⟩ := R.tp (by omega)
 obtain ⟨ids, idb, nb, ib, D⟩ := R.D
 have D1 : Dc { β with ack := false, errors := β.errors ++ [(oS "foster-parented", β.mode)], foster := true } (bFm nb bd0.id at_ ib tb) (fmT f0 ids σ.ts :: (R0 ++ [{ fmT bd0 idb σ.outs with nxt := (nb : Int) :: bd0.nxt }])) σ.L (m + 1) := D.err
 have es : β.errors ++ [(oS "foster-parented", β.mode)] = σ.es ++ [eFos M] := by rw [r.es, r.mode]
 obtain ⟨nk1, t1, hn1⟩ := D1.tp (by omega)
 have nd := D1.dn.nd
 have par : ∀ k ∈ fmT f0 ids σ.ts :: (R0 ++ [{ fmT bd0 idb σ.outs with nxt := (nb : Int) :: bd0.nxt }]), k.par ≠ (nb : Int) := by
  have out : ∀ z ∈ f0 :: (R0 ++ [bd0]), z.id ≠ (nb : Int) := fun z hz e => by
   rw [List.map_cons, List.nodup_cons] at nd
   apply nd.1
   show (nb : Int) ∈ _
   rw [← e]
   rcases List.mem_cons.mp hz with rfl | hz
   ·simp
   ·rcases List.mem_append.mp hz with hz | hz
    ·simp only [List.map_cons, List.map_append, List.mem_cons, List.mem_append, List.mem_map]
     exact .inr (.inl ⟨z, hz, rfl⟩)
    ·rw [List.mem_singleton.mp hz]; simp
  have big := (D1.dn.fm _ (.head _)).big
  have key : ∀ k ∈ f0 :: (R0 ++ [bd0]), k.par ≠ (nb : Int) := fun k hk e => by
   rcases hp k hk with q | ⟨z, hz, q⟩
   ·have : (1 : Int) < (nb : Int) := big
    exact zff (zco (zi [nb] [k.par] (.h 1 (.u 0) (.w 0) (.h 1 (.w 0) (.n 1) (.h 1 (.a (.n 1) (.n 1)) (.u 0) .e))) (.n 1) (.n 0) rfl (Int.le_of_eq e.symm) (Int.le_of_eq q) this))
   ·exact out z hz (q.symm.trans e)
  intro k hk
  rcases List.mem_cons.mp hk with rfl | hk
  ·exact key f0 (.head _)
  ·rcases List.mem_append.mp hk with hk | hk
   ·exact key k (.tail _ (List.mem_append_left _ hk))
   ·rw [List.mem_singleton.mp hk]; exact key bd0 (.tail _ (List.mem_append_right _ (.head _)))
 have s0 : Cl Γ 8 (.ref 745) [.ref .bld, .tup (.str "end" :: .str sB :: rr)] (BH X { β with ack := false, errors := β.errors ++ [(oS "foster-parented", β.mode)], foster := true } ν) (fun v H' => v = .none ∧ ∃ β' ν', H' = BH X β' ν' ∧ Ret0 Q .none (BH X { β' with foster := false } ν')) := by
  refine aA4 (aJn t1 (by rw [hn1]) ⟨rfl, _, ν, rfl, rfl, h _ ν ⟨⟨ids, idb ++ [(nb : Int)], ?_⟩, es, r.fo, r.mode, rfl, r.pend⟩⟩) rfl
  have := D1.closeOut (bd := { fmT bd0 idb σ.outs with nxt := (nb : Int) :: bd0.nxt }) (r := bd0.nxt) rfl rfl hn0 par
  exact this.mono (by omega)
 have s1 : Cd Γ 10 (.ref 314) [.ref .bld, .tup (.str "end" :: .str sB :: rr)] (BH X { β with ack := false } ν) (Ret0 Q) := aBc (n := 8) (by show β.errors.length ≤ _; have q : β.errors.length ≤ m := D.el; omega) s0
 have s2 : Cd Γ 11 (.ref 363) [.ref .bld, .tup (.str "end" :: .str sB :: rr)] (BH X { β with ack := false } ν) (Ret0 Q) := aI2 (n := 10) (by decide +kernel) (by decide +kernel) (by decide +kernel) (aA4 s1 rfl).dup
 have s3 : Cd Γ 12 (.ref 377) [.ref .bld, .tup (.str "end" :: .str sB :: rr)] (BH X { β with ack := false } ν) (Ret0 Q) := aC9 (aA4 s2 rfl).dup
 have s4 : Cl Γ 20 (.ref fM) [.ref .bld, .tup (.str "end" :: .str sB :: rr)] (BH X { β with ack := false } ν) (Ret0 Q) := md.hand (.en (by decide +kernel)) (aA4 s3 rfl)
 exact aAp t (by rw [R.mode]; exact md.rl) (n := 20) (by omega) s4.dup
end
structure Bdy (β : BS) (bd0 : Fm) (m : Nat) (ts : List Tr) (es : List (Str × Str)) (L : List (List (Str × Str))) (fo : Bool) : Prop where
 D : ∃ ids, Dc β (fmT bd0 ids ts) [] L m
 es : β.errors = es
 fo : β.form = -1 ↔ fo = false
 mode : β.mode = oS "in body"
 foster : β.foster = false
 pend : ∃ ps, β.pends = ps ++ [[]]
noncomputable abbrev sTable : Str := oS "table"
noncomputable abbrev sTbody : Str := oS "tbody"
noncomputable abbrev sTr : Str := oS "tr"
section
variable {M : Str} {fM : Addr} {f0 : Fm} {R0 : List Fm} {bd0 : Fm} {m : Nat} {σ : Sp} {g : Option (List Str)} {ts : List Tr} {es : List (Str × Str)} {L : List (List (Str × Str))} {fo : Bool}
theorem Bdy.tp (r : Bdy β bd0 m ts es L fo) (hm : m ≤ 90000) : ∃ k nk, Tp β k nk ∧ nk.name = bd0.nm := by
 obtain ⟨ids, D⟩ := r.D
 obtain ⟨n, t, hn⟩ := D.tp hm
 exact ⟨_, n, t, hn⟩
theorem aK5 {x : Str} (r : Bdy β bd0 m ts es L fo) (hm : m ≤ 70000) (hx : x.length ≤ 2) (h : ∀ β' ν', Bdy β' bd0 (m + 2) (if x = sNul then ts else putT ts x) es L fo → Q .none (BH X β' ν')) : Cd Γ 42 (.ref 695) [.ref .bld, .tup [.str "char", .str x]] (BH X β ν) Q := by
 refine aAl (by decide +kernel) (n := 40) (by omega) ?_
 have R : Bdy { β with ack := false } bd0 m ts es L fo := ⟨r.D, r.es, r.fo, r.mode, r.foster, r.pend⟩
 obtain ⟨k, nk, t, hn⟩ := R.tp (by omega)
 obtain ⟨ids, D⟩ := R.D
 have s1 : Cd Γ 6 (.ref 745) [.ref .bld, .tup [.str "char", .str x]] (BH X { β with ack := false } ν) (Ret0 Q) := by
  by_cases c : x = sNul
  ·subst c
   refine aEd ⟨rfl, h _ ν ⟨⟨ids, ?_⟩, r.es, r.fo, r.mode, r.foster, r.pend⟩⟩
   rw [if_pos rfl]
   exact D.mono (by omega)
  ·refine aC8 c (Cd.less (d' := 4) (aCa D (by omega) (.inl r.foster) hx fun N' ids' ν2 D2 => ⟨rfl, rfl, h _ ν2 ⟨⟨ids', ?_⟩, r.es, r.fo, r.mode, r.foster, r.pend⟩⟩) (by omega))
   rw [if_neg c]
   exact D2
 exact aAp t (by rw [R.mode]; exact aHg) (n := 6) (by omega) (aA4 s1 rfl).dup
theorem aH4 {f : Fm} {R : List Fm} {nm : Str} (ht : ∀ g ∈ f :: R, g.nm ≠ oS "template") (hn : owns.any (isStr nm) = false) : LfTok f R nm [] := ⟨ht, .inr hn, fun q hq => (nomatch hq), by simp⟩
theorem aQq (r : Bdy β bd0 m ts es L fo) (hm : m ≤ 70000) (hb : bd0.nm ≠ oS "template")
  (h : ∀ β' ν' (n : Nat), Rest β' (oS "in table") (Fm.new bd0.id n sTable []) [] { bd0 with nxt := [(n : Int)] } (m + 8) ⟨[], ts, es, L, fo⟩ → Q .none (BH X β' ν')) :
  Cd Γ 42 (.ref 695) [.ref .bld, .tup [.str "start", .str sTable, .tup [], .bool false]] (BH X β ν) Q := by
 have R : Bdy { β with ack := false } bd0 m ts es L fo := ⟨r.D, r.es, r.fo, r.mode, r.foster, r.pend⟩
 obtain ⟨k, nk, t, hn⟩ := R.tp (by omega)
 obtain ⟨ids, D⟩ := R.D
 let Qs : AV → AH → Prop := fun _ H' => ∃ β2 ν2, H' = BH X β2 ν2 ∧ β2.errors.length ≤ 1000000 ∧ Q .none (BH X (finB β2 false) ν2)
 refine aBv (n := 40) (by omega) ?_
 have s1 : Cd Γ 7 (.ref 745) [.ref .bld, .tup [.str "start", .str sTable, .tup [], .bool false]] (BH X { β with ack := false } ν) (Ret0 Qs) := by
  refine aGk (aDk (at_ := []) D (by omega) (by simp) (.inl r.foster) (aH4 (fun g hg => by rw [List.mem_singleton.mp hg]; exact hb) (by decide +kernel)) ⟨by decide +kernel, by decide +kernel⟩ fun N' n' e' ν3 D2 => ⟨⟨_, rfl⟩, _, ν3, rfl, rfl, _, ν3, rfl, ?_, ?_⟩)
  ·have := D.el; show β.errors.length ≤ _; have q : β.errors.length ≤ m := this; omega
  ·exact aB2 (h _ ν3 n' ⟨⟨[], ids, D2.mono (by omega)⟩, r.es, r.fo, rfl, r.foster, r.pend⟩)
 exact aAp t (by rw [R.mode]; exact aHg) (n := 7) (by omega) (aA4 s1 rfl).dup
theorem aQy : Md (oS "in table") 377 := ⟨aCo, .inl rfl⟩
theorem aQz : Md (oS "in table body") 759 := ⟨aHh, .inr rfl⟩
theorem aY6 : Md (oS "in row") 759 := ⟨aTg, .inr rfl⟩
theorem aQr (gp : Gp β (oS "in table") 377 f0 [] bd0 m σ g) (hf : f0.nm = sTable)
  (h : ∀ β' ν' (n : Nat) ids, Rest β' (oS "in table body") (Fm.new f0.id n sTbody []) [{ fmT f0 ids (flushS σ g).ts with nxt := [(n : Int)] }] bd0 (m + 80) { flushS σ g with ts := [] } → Q .none (BH X β' ν')) :
  Cd Γ 42 (.ref 695) [.ref .bld, .tup [.str "start", .str sTbody, .tup [], .bool false]] (BH X β ν) Q :=
 aCi gp (by decide +kernel) fun β' ν' R hack => by
  refine hZ fun GZ kZ => ?_
  obtain ⟨ids, idb, D⟩ := R.D
  have hm := gp.hm
  obtain ⟨k, nk, t, hn⟩ := R.tp (by omega)
  refine kZ ?_
  let Qs : AV → AH → Prop := fun _ H' => ∃ β2 ν2, H' = BH X β2 ν2 ∧ β2.errors.length ≤ 1000000 ∧ Q .none (BH X (finB β2 false) ν2)
  have s1 : Cd Γ 7 (.ref 356) [.ref .bld, .tup [.str "start", .str sTbody, .tup [], .bool false]] (BH X β' ν') (Ret0 Qs) := by
   refine aJy t (hn.trans hf) (aDk (at_ := []) D (by omega) (by simp) (.inl R.foster) (aH4 gp.sk.tm' (by decide +kernel)) ⟨by decide +kernel, by decide +kernel⟩ fun N' n' e' ν3 D2 => ⟨⟨_, rfl⟩, _, ν3, rfl, rfl, _, ν3, rfl, ?_, ?_⟩)
   ·have := D.el; show β'.errors.length ≤ _; omega
   ·exact aB2 (h _ ν3 n' ids ⟨⟨[], idb, D2.mono (by omega)⟩, R.es, R.fo, rfl, R.foster, R.pend⟩)
  have s2 : Cd Γ 8 (.ref 377) [.ref .bld, .tup [.str "start", .str sTbody, .tup [], .bool false]] (BH X β' ν') (Ret0 Qs) := aAr (aA4 s1 rfl).dup
  exact aA4 s2 rfl
theorem aZq (gp : Gp β (oS "in table body") 759 f0 R0 bd0 m σ g)
  (h : ∀ β' ν' (n : Nat) ids, Rest β' (oS "in row") (Fm.new f0.id n sTr []) ({ fmT f0 ids (flushS σ g).ts with nxt := [(n : Int)] } :: R0) bd0 (m + 80) { flushS σ g with ts := [] } → Q .none (BH X β' ν')) :
  Cd Γ 42 (.ref 695) [.ref .bld, .tup [.str "start", .str sTr, .tup [], .bool false]] (BH X β ν) Q := by
 have hm := gp.hm
 let Qs : AV → AH → Prop := fun _ H' => ∃ β2 ν2, H' = BH X β2 ν2 ∧ β2.errors.length ≤ 1000000 ∧ Q .none (BH X (finB β2 false) ν2)
 refine aBv (n := 40) (by omega) (aEk (Q := Qs) (by decide +kernel) gp.sk aHh gp.G.ack gp.ok (by omega) fun β' ν' R ha => ?_)
 obtain ⟨ids, idb, D⟩ := R.D
 have sl := gp.sk.len
 have s1 : Cd Γ 6 (.ref 759) [.ref .bld, .tup [.str "start", .str sTr, .tup [], .bool false]] (BH X β' ν') (Ret0 Qs) := by
  refine aMf (aDk (at_ := []) D (by omega) (by simp; omega) (.inl R.foster) (aH4 gp.sk.tm' (by decide +kernel)) ⟨by decide +kernel, by decide +kernel⟩ fun N' n' e' ν3 D2 => ⟨⟨_, rfl⟩, _, ν3, rfl, rfl, _, ν3, rfl, ?_, ?_⟩)
  ·have := D.el; show β'.errors.length ≤ _; omega
  ·exact aB2 (h _ ν3 n' ids ⟨⟨[], idb, D2.mono (by omega)⟩, R.es, R.fo, rfl, R.foster, R.pend⟩)
 exact aA4 s1 rfl
theorem aEw {f g : Fm} {R : List Fm} {m : Nat} (D : Dc β f (g :: R) L m) (hp : ∀ k ∈ g :: R, k.par = 1 ∨ ∃ z ∈ g :: R, k.par = z.id) : ∀ k ∈ g :: R, k.par ≠ f.id := fun k hk e => by
 have nd := D.dn.nd
 rw [List.map_cons, List.nodup_cons] at nd
 have big := (D.dn.fm _ (.head _)).big
 rcases hp k hk with q | ⟨z, hz, q⟩
 ·exact zff (zco (zi [] [k.par, f.id] (.h 1 (.w 1) (.w 0) (.h 1 (.a (.n 1) (.n 1)) (.w 1) (.h 1 (.w 0) (.n 1) .e))) (.n 1) (.n 0) rfl (Int.le_of_eq e.symm) big (Int.le_of_eq q)))
 ·exact nd.1 (by rw [← e, q]; exact List.mem_map.mpr ⟨z, hz, rfl⟩)
theorem aQp {tg : Fm} {R1 : List Fm} {r : List AV} (gp : Gp β (oS "in row") 759 f0 (tg :: R1) bd0 m σ g) (hp : f0.par = tg.id) (hn : tg.nxt = [f0.id]) (hR : ∀ idb tsb, ∀ k ∈ tg :: (R1 ++ [fmT bd0 idb tsb]), k.par = 1 ∨ ∃ z ∈ tg :: (R1 ++ [fmT bd0 idb tsb]), k.par = z.id)
  (h : ∀ β' ν', Rest β' (oS "in table body") { tg with nxt := [] } R1 bd0 (m + 80) { flushS σ g with ts := tg.ts ++ [.el f0.nm f0.at_ (flushS σ g).ts] } → Q .none (BH X β' ν')) :
  Cd Γ 42 (.ref 695) [.ref .bld, .tup (.str "end" :: .str sTr :: r)] (BH X β ν) Q := by
 have hm := gp.hm
 refine aAl (by decide +kernel) (n := 40) (by omega) (aEk (Q := Q) (by decide +kernel) gp.sk aTg gp.G.ack gp.ok (by omega) fun β' ν' R ha => ?_)
 obtain ⟨ids, idb, D⟩ := R.D
 have sl := gp.sk.len
 refine aA4 (d' := 6) (aFb D.top (by have := D.ilen; omega) ⟨rfl, h _ ν' ⟨⟨tg.ids ++ [f0.id], idb, ?_⟩, R.es, R.fo, rfl, R.foster, R.pend⟩⟩) rfl
 have := D.close (g := tg) (R := R1 ++ [fmT bd0 idb (flushS σ g).outs]) (r := []) hp hn rfl (aEw D (hR idb _))
 exact this.mono (by omega)
theorem aK7 {tg : Fm} {R1 : List Fm} {r : List AV} (gp : Gp β (oS "in table body") 759 f0 (tg :: R1) bd0 m σ g) (hp : f0.par = tg.id) (hn : tg.nxt = [f0.id]) (hR : ∀ idb tsb, ∀ k ∈ tg :: (R1 ++ [fmT bd0 idb tsb]), k.par = 1 ∨ ∃ z ∈ tg :: (R1 ++ [fmT bd0 idb tsb]), k.par = z.id)
  (h : ∀ β' ν', Rest β' (oS "in table") { tg with nxt := [] } R1 bd0 (m + 80) { flushS σ g with ts := tg.ts ++ [.el f0.nm f0.at_ (flushS σ g).ts] } → Q .none (BH X β' ν')) :
  Cd Γ 42 (.ref 695) [.ref .bld, .tup (.str "end" :: .str sTbody :: r)] (BH X β ν) Q := by
 have hm := gp.hm
 refine aAl (by decide +kernel) (n := 40) (by omega) (aEk (Q := Q) (by decide +kernel) gp.sk aHh gp.G.ack gp.ok (by omega) fun β' ν' R ha => ?_)
 obtain ⟨ids, idb, D⟩ := R.D
 have sl := gp.sk.len
 refine aA4 (d' := 6) (aDl D.top (by have := D.ilen; omega) ⟨rfl, h _ ν' ⟨⟨tg.ids ++ [f0.id], idb, ?_⟩, R.es, R.fo, rfl, R.foster, R.pend⟩⟩) rfl
 have := D.close (g := tg) (R := R1 ++ [fmT bd0 idb (flushS σ g).outs]) (r := []) hp hn rfl (aEw D (hR idb _))
 exact this.mono (by omega)
theorem aK6 {r : List AV} (gp : Gp β (oS "in table") 377 f0 [] bd0 m σ g) (hf : f0.nm = sTable) (hb : bd0.nm = oS "body") (hp : f0.par = bd0.id) (hb1 : bd0.par = 1) (hn : bd0.nxt = [f0.id])
  (h : ∀ β' ν', Bdy β' { bd0 with nxt := [] } (m + 80) ((flushS σ g).outs ++ [.el f0.nm f0.at_ (flushS σ g).ts]) (flushS σ g).es (flushS σ g).L (flushS σ g).fo → Q .none (BH X β' ν')) :
  Cd Γ 42 (.ref 695) [.ref .bld, .tup (.str "end" :: .str sTable :: r)] (BH X β ν) Q := by
 have hm := gp.hm
 refine aAl (by decide +kernel) (n := 40) (by omega) (aEk (Q := Q) (by decide +kernel) gp.sk aCo gp.G.ack gp.ok (by omega) fun β' ν' R ha => ?_)
 refine hZ fun GZ kZ => ?_
 obtain ⟨ids, idb, D⟩ := R.D
 obtain ⟨n1, a1, _, c1, d1, _⟩ := D.node (by omega) (g := fmT f0 ids (flushS σ g).ts) (.head _)
 obtain ⟨n2, a2, _, c2, d2, _⟩ := D.node (by omega) (g := fmT bd0 idb (flushS σ g).outs) (.tail _ (.head _))
 have its : β'.items = [1, bd0.id, f0.id] := by rw [D.its]; rfl
 have s1 : Cd Γ 6 (.ref 363) [.ref .bld, .tup (.str "end" :: .str sTable :: r)] (BH X β' ν') (Ret0 Q) := by
  refine aJp its a1 c1 (d1.trans hf) a2 c2 (d2.trans hb) fun ν2 => ⟨rfl, h _ ν2 ⟨⟨idb ++ [f0.id], ?_⟩, R.es, R.fo, rfl, R.foster, R.pend⟩⟩
  have D9 := D.close (g := fmT bd0 idb (flushS σ g).outs) (R := []) (r := []) hp hn rfl (aEw D fun k hk => by rw [List.mem_singleton.mp hk]; exact .inl hb1)
  have e9 : β'.items.dropLast = [1, bd0.id] := by rw [its]; rfl
  rw [e9] at D9
  exact D9.mono (by omega)
 have s2 : Cd Γ 7 (.ref 377) [.ref .bld, .tup (.str "end" :: .str sTable :: r)] (BH X β' ν') (Ret0 Q) := aC9 (aA4 s1 rfl).dup
 refine kZ ?_
 exact aA4 s2 rfl
theorem aWr (gp : Gp β (oS "in table") 377 f0 R0 bd0 m σ g)
  (h : ∀ β' ν', Rest β' (oS "in table") f0 R0 bd0 (m + 80) { flushS σ g with es := (flushS σ g).es ++ [(oS "unexpected-eof", oS "in table")] } → Q .none (BH X β' ν')) :
  Cd Γ 42 (.ref 695) [.ref .bld, .tup [.str "eof"]] (BH X β ν) Q := by
 have hm := gp.hm
 refine aAl (by decide +kernel) (n := 40) (by omega) (aEk (Q := Q) (by decide +kernel) gp.sk aCo gp.G.ack gp.ok (by omega) fun β' ν' R ha => ?_)
 obtain ⟨ids, idb, D⟩ := R.D
 have s1 : Cd Γ 6 (.ref 745) [.ref .bld, .tup [.str "eof"]] (BH X β' ν') (Ret0 Q) := aJo (by have := D.el; omega) ⟨rfl, h _ ν' ⟨⟨ids, idb, D.err.mono (by omega)⟩, by show β'.errors ++ _ = _; rw [R.es, R.mode], R.fo, R.mode, R.foster, R.pend⟩⟩
 exact aA4 (d' := 8) (aO5 (aA4 s1 rfl).dup) rfl
end
theorem aA8 {n : Str} {i : Id} {v : AV} {C' : Addr} {fs : List (Str × AV)} {C : AH → Prop} (hi : H i = .live (.ins C' fs)) (hc : ClsOk Γ.w.params C') (hn : findIn (K Γ.w.params) (.ref C') n = some none) (hz : Nat.ble fs.length 900 = true) (hk : (fs.map (·.1)).contains n = false)
  (h : C (upd H i (.live (.ins C' (fs ++ [(n, v)]))))) : SetA Γ n (.ref i) v H C := by
 refine aBj hi hc hn hz (.new fun hm => ?_) rfl h
 rwa [List.contains_iff_mem.mpr hm] at hk
theorem aGw (hi : H .stack = .live (.ins 239 [])) (hf : H .items = .free) (h : Q .none (upd (upd (upd H .stack (.live (.ins 239 [(oS "tree", .ref .tree)]))) .items (.live (.lst []))) .stack (.live (.ins 239 stackFs)))) : Cd Γ 1 (.ref 152) [.ref .stack, .ref .tree] H Q := by
 refine aR8 fun P => ?_
 nofun
 refine aA8 hi aNz aKe rfl rfl ?_
 nofun
 refine aA6 .items (aA7 ⟨rfl, (if_neg (by decide)).trans hf, ?_⟩)
 nofun
 refine aA8 (fs := [(oS "tree", .ref .tree)]) ((if_neg (by decide)).trans aA2) aNz aIp rfl (by decide +kernel) ?_
 nofun
 exact aA1 h
theorem aJq (hi : H .fmt = .live (.ins 510 [])) (hf : H .fitems = .free) (h : Q .none (upd (upd (upd H .fmt (.live (.ins 510 [(oS "tree", .ref .tree)]))) .fitems (.live (.lst []))) .fmt (.live (.ins 510 fmtFs)))) : Cd Γ 1 (.ref 444) [.ref .fmt, .ref .tree] H Q := by
 refine aRt fun P => ?_
 nofun
 refine aA8 hi aO0 aKf rfl rfl ?_
 nofun
 refine aA6 .fitems (aA7 ⟨rfl, (if_neg (by decide)).trans hf, ?_⟩)
 nofun
 refine aA8 (fs := [(oS "tree", .ref .tree)]) ((if_neg (by decide)).trans aA2) aO0 aIq rfl (by decide +kernel) ?_
 nofun
 exact aA1 h
noncomputable def TH (H : AH) : AH
 | .tree => .live (.ins 634 treeFs)
 | .kinds => .live (.lst [.str "document"])
 | .spaces => .live (.lst [.str ""])
 | .names => .live (.lst [.str ""])
 | .attrs => .live (.lst [.ref (.at 0)])
 | .texts => .live (.lst [.str ""])
 | .parents => .live (.lst [.int (-1)])
 | .children => .live (.lst [.ref (.kd 0)])
 | .contents => .live (.dci [] 0)
 | .at 0 => .live (.lst [])
 | .kd 0 => .live (.lst [])
 | i => H i
theorem aIf (hi : H .tree = .live (.ins 634 [])) (h1 : H .kinds = .free) (h2 : H .spaces = .free) (h3 : H .names = .free) (h4 : H .attrs = .free) (h5 : H .texts = .free) (h6 : H .parents = .free) (h7 : H .children = .free) (h8 : H .contents = .free) (h9 : H (.at 0) = .free) (h10 : H (.kd 0) = .free)
  (h : Q .none (TH H)) : Cd Γ 2 (.ref 535) [.ref .tree] H Q := by
 refine aRu fun P => ?_
 nofun
 refine aA6 .kinds (aA7 ⟨rfl, h1, ?_⟩)
 nofun
 refine aA8 (fs := []) ((if_neg (by decide)).trans hi) aCt aIs rfl rfl ?_
 nofun
 refine aA6 .spaces (aA7 ⟨rfl, h2, ?_⟩)
 nofun
 refine aA8 rfl aCt aH6 rfl (by decide +kernel) ?_
 nofun
 refine aA6 .names (aA7 ⟨rfl, h3, ?_⟩)
 nofun
 refine aA8 rfl aCt aIt rfl (by decide +kernel) ?_
 nofun
 refine aA6 .attrs (aA7 ⟨rfl, h4, ?_⟩)
 nofun
 refine aA8 rfl aCt aIr rfl (by decide +kernel) ?_
 nofun
 refine aA6 .texts (aA7 ⟨rfl, h5, ?_⟩)
 nofun
 refine aA8 rfl aCt aIu rfl (by decide +kernel) ?_
 nofun
 refine aA6 .parents (aA7 ⟨rfl, h6, ?_⟩)
 nofun
 refine aA8 rfl aCt aFe rfl (by decide +kernel) ?_
 nofun
 refine aA6 .children (aA7 ⟨rfl, h7, ?_⟩)
 nofun
 refine aA8 rfl aCt aEp rfl (by decide +kernel) ?_
 nofun
 refine aKt .contents h8 ?_
 nofun
 refine aA8 rfl aCt aEq rfl (by decide +kernel) ?_
 show Exs _ _ _ _ _ (upd _ _ (.live (.ins 634 treeFs))) _
 refine aD1 (aEa (aB8 (by wtm_at "m.get") (aKx rfl aCt aTe ?_)))
 repeat' wtm_at "m.xp"
 refine aA4 (d' := 0 + 1) (aLd (d := 0) fun P => ?_) rfl
 nofun
 refine aA5 (l := []) rfl (by simp) ?_
 nofun
 refine aA5 (l := []) rfl (by simp) ?_
 nofun
 refine aA5 (l := []) rfl (by simp) ?_
 nofun
 refine aFj (.at 0) h9 (by simp) ?_
 nofun
 refine aA5 (l := []) rfl (by simp) ?_
 nofun
 refine aA5 (l := []) rfl (by simp) ?_
 nofun
 refine aA5 (l := []) rfl (by simp) ?_
 nofun
 refine aA6 (.kd 0) (aA7 ⟨rfl, h10, ?_⟩)
 nofun
 refine aA5 (l := []) rfl (by simp) ?_
 nofun
 refine aHo (l := [.str "document"]) rfl (by simp) ?_
 nofun
 refine aA3 ?_
 nofun
 refine aFn (Le.of_eq ?_) h
 funext j
 cases j <;> first | rfl | skip
 all_goals (rename_i k; cases k <;> rfl)
noncomputable def RH (X : AH) : AH
 | .rules => .live (.dcs rulesD)
 | .lw k => X (.lw k)
 | .lx k => X (.lx k)
 | _ => .free
noncomputable def docN : Node := ⟨oS "document", oS "", oS "", [], oS "", -1, []⟩
noncomputable def β00 : BS := { nodes := [docN], cont := [], contE := 0, items := [], mode := oS "initial", orig := oS "", head := -1, form := -1, owners := [], ownE := 0, foster := false, ack := false, errors := [], pends := [[]] }
theorem aJm (h : Q .none (BH X β00 0)) : Cd Γ 4 (.ref 660) [.ref .bld, .ref .rules] (upd (RH X) .bld (.live (.ins 712 []))) Q := by
 refine aS8 fun P => ?_
 nofun
 refine aA8 aA2 aAn aIw rfl rfl ?_
 nofun
 refine (aDw (d := 2) .tree rfl aY9 aY3 aZa (aIf aA2 rfl rfl rfl rfl rfl rfl rfl rfl rfl rfl ⟨rfl, ?_⟩)).less (by omega)
 nofun
 refine aA8 (fs := [(oS "rules", .ref .rules)]) rfl aAn aKg rfl (by decide +kernel) ?_
 show Exs _ _ _ _ _ (upd _ _ (.live (.ins 712 [(oS "rules", .ref .rules), (oS "tree", .ref .tree)]))) _
 nofun
 refine (aDw (d := 1) .stack rfl aY7 aY1 aZ8 (aGw aA2 rfl ⟨rfl, ?_⟩)).less (by omega)
 nofun
 refine aA8 (fs := [(oS "rules", .ref .rules), (oS "tree", .ref .tree)]) rfl aAn aIx rfl (by decide +kernel) ?_
 show Exs _ _ _ _ _ (upd _ _ (.live (.ins 712 [(oS "rules", .ref .rules), (oS "tree", .ref .tree), (oS "stack", .ref .stack)]))) _
 nofun
 refine (aDw (d := 1) .fmt rfl aY8 aY2 aZ9 (aJq aA2 rfl ⟨rfl, ?_⟩)).less (by omega)
 nofun
 refine aA8 rfl aAn aDm rfl (by decide +kernel) ?_
 nofun
 refine aA8 rfl aAn aEt rfl (by decide +kernel) ?_
 nofun
 refine aA8 rfl aAn aCe rfl (by decide +kernel) ?_
 nofun
 refine aA6 .modes (aA7 ⟨rfl, rfl, ?_⟩)
 nofun
 refine aA8 rfl aAn aIv rfl (by decide +kernel) ?_
 nofun
 refine aA8 rfl aAn aEs rfl (by decide +kernel) ?_
 nofun
 refine aA8 rfl aAn aEr rfl (by decide +kernel) ?_
 nofun
 refine aKt .owners rfl ?_
 nofun
 refine aA8 rfl aAn aH8 rfl (by decide +kernel) ?_
 nofun
 refine aA8 rfl aAn aCd rfl (by decide +kernel) ?_
 nofun
 refine aA8 rfl aAn aCz rfl (by decide +kernel) ?_
 nofun
 refine aA8 rfl aAn aC4 rfl (by decide +kernel) ?_
 nofun
 refine aA8 rfl aAn aFf rfl (by decide +kernel) ?_
 nofun
 refine aA8 rfl aAn aH9 rfl (by decide +kernel) ?_
 nofun
 refine aA6 .errors (aA7 ⟨rfl, rfl, ?_⟩)
 nofun
 refine aA8 rfl aAn aH7 rfl (by decide +kernel) ?_
 nofun
 refine aA6 (.pend 0) (aA7 ⟨rfl, rfl, ?_⟩)
 nofun
 refine aA8 rfl aAn aCu rfl (by decide +kernel) ?_
 nofun
 refine aA8 rfl aAn aKh rfl (by decide +kernel) ?_
 nofun
 refine aA8 rfl aAn aDb rfl (by decide +kernel) ?_
 nofun
 refine aA8 rfl aAn aB1 rfl (by decide +kernel) ?_
 nofun
 refine aA8 rfl aAn aFg rfl (by decide +kernel) ?_
 nofun
 refine aFn (Le.of_eq ?_) h
 funext j
 cases j <;> first | rfl | skip
 all_goals (rename_i k; cases k <;> rfl)
theorem aM8 (h : Q (.ref .bld) (BH X β00 0)) : Cl Γ 5 (.ref 712) [.ref .rules] (RH X) Q := aDw .bld rfl aYa aY4 aZb (aJm ⟨rfl, h⟩)
noncomputable def docN1 : Node := { docN with kids := [1] }
noncomputable def htmlN (l : List Int) : Node := { elmN (oS "html") [] with parent := 0, kids := l }
noncomputable def headN : Node := { elmN (oS "head") [] with parent := 1 }
noncomputable def bodyN : Node := { elmN (oS "body") [] with parent := 1 }
noncomputable def β1 (e : Nat) : BS := { β00 with nodes := [docN1, htmlN []], contE := e, items := [1] }
noncomputable def β2 (e : Nat) : BS := { β00 with nodes := [docN1, htmlN [2], headN], contE := e, items := [1], head := 2 }
noncomputable def β3 (e : Nat) : BS := { β00 with nodes := [docN1, htmlN [2, 3], headN, bodyN], contE := e, items := [1, 3], head := 2, mode := oS "in body" }
theorem aH5 {l : List Node} {β : BS} (h : β.nodes = l) {k : Nat} {n : Node} (e : l[k]? = some n) (hk : k < 1000) : Nd β (k : Int) n := ⟨by omega, by exact zi [k] [] (.h 1 (.c (.a (.v 0) (.n 1))) (.n 1000) .e) (.a (.u 0) (.n 1)) (.n 1000000) rfl (zcl hk), by rw [h]; simpa using e⟩
theorem aHl (h : ∀ (k : Nat) (n : Node), β.nodes[k]? = some n → n.parent = -1 ∨ (0 ≤ n.parent ∧ n.parent < k)) (hl : β.nodes.length ≤ 100000) : WFp β := ⟨fun i n hn => by
 have := h i.toNat n hn.at_
 have := hn.lo
 exact oz44 ‹_› this, hl⟩
theorem four {α : Type} {a b c d : α} {k : Nat} {x : α} (h : [a, b, c, d][k]? = some x) : (k = 0 ∧ x = a) ∨ (k = 1 ∧ x = b) ∨ (k = 2 ∧ x = c) ∨ (k = 3 ∧ x = d) := by
 match k, h with
 | 0, h => exact .inl ⟨rfl, (Option.some.inj h).symm⟩
 | 1, h => exact .inr (.inl ⟨rfl, (Option.some.inj h).symm⟩)
 | 2, h => exact .inr (.inr (.inl ⟨rfl, (Option.some.inj h).symm⟩))
 | 3, h => exact .inr (.inr (.inr ⟨rfl, (Option.some.inj h).symm⟩))
 | k + 4, h => simp at h
theorem three {α : Type} {a b c : α} {k : Nat} {x : α} (h : [a, b, c][k]? = some x) : (k = 0 ∧ x = a) ∨ (k = 1 ∧ x = b) ∨ (k = 2 ∧ x = c) := by
 match k, h with
 | 0, h => exact .inl ⟨rfl, (Option.some.inj h).symm⟩
 | 1, h => exact .inr (.inl ⟨rfl, (Option.some.inj h).symm⟩)
 | 2, h => exact .inr (.inr ⟨rfl, (Option.some.inj h).symm⟩)
 | k + 3, h => simp at h
theorem two {α : Type} {a b : α} {k : Nat} {x : α} (h : [a, b][k]? = some x) : (k = 0 ∧ x = a) ∨ (k = 1 ∧ x = b) := by
 match k, h with
 | 0, h => exact .inl ⟨rfl, (Option.some.inj h).symm⟩
 | 1, h => exact .inr ⟨rfl, (Option.some.inj h).symm⟩
 | k + 2, h => simp at h
theorem spot1 {e : Nat} : Spot (β1 e) 1 (-1) (htmlN []) 0 := by
 have n1 : Nd (β1 e) ((1 : Nat) : Int) (htmlN []) := aH5 (k := 1) rfl rfl (by decide)
 refine ⟨aHl (fun k n h => ?_) (Nat.le_of_ble_eq_true rfl), .here rfl n1 (.inl rfl) rfl (Nat.le_of_ble_eq_true rfl), ⟨n1, .inl ⟨rfl, rfl⟩, by decide⟩, by simp [β1], by decide +kernel, Nat.le_of_ble_eq_true rfl⟩
 rcases two h with ⟨rfl, rfl⟩ | ⟨rfl, rfl⟩
 ·exact .inl rfl
 ·exact .inr ⟨by decide, by decide⟩
theorem spot2 {e : Nat} : Spot (β2 e) 1 (-1) (htmlN [2]) 1 := by
 have n1 : Nd (β2 e) ((1 : Nat) : Int) (htmlN [2]) := aH5 (k := 1) rfl rfl (by decide)
 refine ⟨aHl (fun k n h => ?_) (Nat.le_of_ble_eq_true rfl), .here rfl n1 (.inl rfl) rfl (Nat.le_of_ble_eq_true rfl), ⟨n1, .inl ⟨rfl, rfl⟩, by decide⟩, by simp [β2], by decide +kernel, Nat.le_of_ble_eq_true rfl⟩
 rcases three h with ⟨rfl, rfl⟩ | ⟨rfl, rfl⟩ | ⟨rfl, rfl⟩
 ·exact .inl rfl
 ·exact .inr ⟨by decide, by decide⟩
 ·exact .inr ⟨by decide, by decide⟩
theorem Fr.plain' {nm : Str} {n : Nat} {fr : List Node} {cx : List (Int × Int)} (h : Fr nm n fr cx) (hn : nm ≠ oS "template") : fr = [] ∧ cx = [] := by
 cases h with
 | plain _ => exact ⟨rfl, rfl⟩
 | tmpl q => exact absurd q hn
theorem aQi (h : ∀ e ν', Q (.tup [.int 1, .int 3]) (BH X (β3 e) ν')) : Cd Γ 5 (.ref 731) [.ref .bld] (BH X β00 ν) Q := by
 refine aSg fun P => ?_
 nofun
 refine aA4 (aQf (at_ := []) ⟨fun p hp => (nomatch hp), by decide⟩ (by decide) (by decide) fun fr cx e hf => ?_) rfl
 obtain ⟨rfl, rfl⟩ := hf.plain' (by decide +kernel)
 nofun
 have n0 : Nd (newB β00 (elmN (oS "html") []) [] [] e) ((0 : Nat) : Int) docN := aH5 (k := 0) rfl rfl (by decide)
 have n1 : Nd (newB β00 (elmN (oS "html") []) [] [] e) ((1 : Nat) : Int) (elmN (oS "html") []) := aH5 (k := 1) rfl rfl (by decide)
 refine aA4 (aO1 (p := 0) (nd := 1) (j := 0) (aHl (fun k n h => ?_) (Nat.le_of_ble_eq_true rfl)) ⟨n0, .inl ⟨rfl, rfl⟩, by decide⟩ n1 rfl (by decide) fun ν' => ?_) rfl
 ·rcases two h with ⟨rfl, rfl⟩ | ⟨rfl, rfl⟩ <;> exact .inl rfl
 have z1 : (insAt (newB β00 (elmN (oS "html") []) [] [] e) 0 docN 0 1 (elmN (oS "html") [])).items.length ≤ 1000000 := Nat.le_of_ble_eq_true rfl
 nofun
 have e1 : ({ insAt (newB β00 (elmN (oS "html") []) [] [] e) 0 docN 0 1 (elmN (oS "html") []) with items := (insAt (newB β00 (elmN (oS "html") []) [] [] e) 0 docN 0 1 (elmN (oS "html") [])).items ++ [(β00.nodes.length : Int)] } : BS) = β1 e := rfl
 rw [e1]
 refine aA4 (aBk spot1 ⟨fun p hp => (nomatch hp), Nat.le_of_ble_eq_true rfl⟩ (Nat.le_of_ble_eq_true rfl) fun fr cx e2 ν2 hf2 => ?_) rfl
 obtain ⟨rfl, rfl⟩ := hf2.plain' (by decide +kernel)
 nofun
 have v2 : ({ insE (β1 e) 1 (htmlN []) 0 (oS "head") [] [] [] e2 with head := ((β1 e).nodes.length : Int) } : BS).items.getLast? = some 2 := rfl
 have z2 : ({ insE (β1 e) 1 (htmlN []) 0 (oS "head") [] [] [] e2 with head := ((β1 e).nodes.length : Int) } : BS).items.length ≤ 1000000 := Nat.le_of_ble_eq_true rfl
 nofun
 have e3 : ({ insE (β1 e) 1 (htmlN []) 0 (oS "head") [] [] [] e2 with head := ((β1 e).nodes.length : Int), items := ({ insE (β1 e) 1 (htmlN []) 0 (oS "head") [] [] [] e2 with head := ((β1 e).nodes.length : Int) } : BS).items.dropLast } : BS) = β2 e2 := rfl
 rw [e3]
 refine aA4 (aBk spot2 ⟨fun p hp => (nomatch hp), Nat.le_of_ble_eq_true rfl⟩ (Nat.le_of_ble_eq_true rfl) fun fr cx e4 ν4 hf4 => ?_) rfl
 obtain ⟨rfl, rfl⟩ := hf4.plain' (by decide +kernel)
 nofun
 exact aA3 (h e4 ν4)
noncomputable def bd00 : Fm := ⟨3, 1, oS "body", [], [], [], []⟩
theorem bdy0 {e : Nat} : Bdy (β3 e) bd00 10 [] [] [] false := by
 refine ⟨⟨[], ?_⟩, rfl, ⟨fun _ => rfl, fun _ => rfl⟩, rfl, rfl, [], rfl⟩
 have gk : ∀ i n, gN (β3 e).nodes i = some n → (i = 0 ∧ n = docN1) ∨ (i = 1 ∧ n = htmlN [2, 3]) ∨ (i = 2 ∧ n = headN) ∨ (i = 3 ∧ n = bodyN) := fun i n h => by
  have h0 := (aB3 h).1
  unfold gN at h
  rw [if_pos h0] at h
  rcases four h with ⟨q, rfl⟩ | ⟨q, rfl⟩ | ⟨q, rfl⟩ | ⟨q, rfl⟩
  ·exact .inl ⟨by omega, rfl⟩
  ·exact .inr (.inl ⟨by omega, rfl⟩)
  ·exact .inr (.inr (.inl ⟨by omega, rfl⟩))
  ·exact .inr (.inr (.inr ⟨by omega, rfl⟩))
 refine ⟨⟨⟨docN1, rfl, rfl⟩, ⟨htmlN [2, 3], rfl, rfl, rfl, rfl⟩, fun g hg => ?_, by simp⟩, rfl, rfl, Nat.le_of_ble_eq_true rfl, fun i n h => ?_, fun i n h => ?_, Nat.le_of_ble_eq_true rfl, Nat.le_of_ble_eq_true rfl, fun p hp => (nomatch hp), fun p hp => (nomatch hp), Nat.le_of_ble_eq_true rfl, fun p hp => (nomatch hp), fun l hl => ?_, by decide, ⟨rfl, fun k p a h => by cases h⟩, .inl rfl⟩
 ·rw [List.mem_singleton.mp hg]
  exact ⟨⟨bodyN, rfl, rfl, rfl, rfl, rfl, rfl, rfl⟩, .nil, fun i hi => (nomatch hi), List.nodup_nil, by decide, by decide⟩
 ·rcases gk i n h with ⟨rfl, rfl⟩ | ⟨rfl, rfl⟩ | ⟨rfl, rfl⟩ | ⟨rfl, rfl⟩
  ·exact .inl rfl
  all_goals exact .inr ⟨by decide, by decide⟩
 ·rcases gk i n h with ⟨rfl, rfl⟩ | ⟨rfl, rfl⟩ | ⟨rfl, rfl⟩ | ⟨rfl, rfl⟩
  all_goals exact ⟨by decide, by decide +kernel, by show ∀ x ∈ (_ : List Int), x < (4 : Int); decide⟩
 ·have : l ∈ [[]] := hl
  rw [List.mem_singleton.mp this]; decide
noncomputable def digI (ns : List Int) (k : Nat) : Int := (ns[k]?).getD (29 * k * k + 57 * k + 87)
theorem aQb {a : Addr} {ns : List Int} {k : Nat} (c : Scr Γ.h₀ a ns) (hk : k ≤ 1000) (h : Q (.int (digI ns k)) H) : Cd Γ 2 (.ref 738) [.glob (.ref a), .int k] H Q := by
 refine aSh fun P => ?_
 nofun
 refine aLs c ?_
 nofun
 ·rename_i e
  have hl : k < ns.length := by simpa using e
  refine aW5 c rfl (List.getElem?_eq_getElem hl) ?_
  rw [digI, List.getElem?_eq_getElem hl] at h
  exact aA3 h
 ·rename_i e
  have hl : ¬ k < ns.length := by simpa using e
  rw [digI, List.getElem?_eq_none (by exact oz46 hl)] at h
  exact aA3 h
noncomputable def chS (al : Str) (r : Int) : Str := ⟨#[(al.cps[(r.fmod al.length).toNat]?).getD 0]⟩
noncomputable def signsG (al : Str) : Nat → Int → List Str
 | 0, _ => []
 | k + 1, r => chS al r :: signsG al k (r.fdiv al.length)
noncomputable def restG (al : Str) : Nat → Int → Int
 | 0, r => r
 | k + 1, r => restG al k (r.fdiv al.length)
theorem aF2 {al : Str} : ∀ (k : Nat) (r : Int), signsG al (k + 1) r = signsG al k r ++ [chS al (restG al k r)]
 | 0, r => rfl
 | k + 1, r => by
  show chS al r :: signsG al (k + 1) _ = _
  rw [aF2 k]; rfl
theorem aG4 {al : Str} : ∀ (k : Nat) (r : Int), restG al (k + 1) r = (restG al k r).fdiv al.length
 | 0, r => rfl
 | k + 1, r => by
  show restG al (k + 1) _ = _
  rw [aG4 k]; rfl
theorem aDo {al : Str} : ∀ (k : Nat) (r : Int), (signsG al k r).length = k
 | 0, _ => rfl
 | k + 1, r => by rw [signsG, List.length_cons, aDo k]
noncomputable abbrev sgA : Str := oS "x \n\x00y\xa0\x0b\t"
noncomputable abbrev sgB : Str := oS " \n\t\r\x0c\x00"
noncomputable def alph (n : Int) : Str := if (n.fdiv 5).fmod 2 = 1 then sgA else sgB
noncomputable def sigL (n : Int) : List Str := signsG (alph n) (n.fmod 5).toNat (n.fdiv 10)
theorem aV7 : sgA.length = 8 := by decide +kernel
theorem aV8 : sgB.length = 6 := by decide +kernel
theorem fmod5 (n : Int) : 0 ≤ n.fmod 5 ∧ n.fmod 5 < 5 := ⟨Int.fmod_nonneg_of_pos _ (by decide), Int.fmod_lt_of_pos _ (by decide)⟩
theorem rng0 (k : Int) (h : 0 ≤ k) : Builtin.Range.rangeSize 0 k 1 = k := by
 unfold Builtin.Range.rangeSize
 rw [if_pos (by decide)]
 by_cases h0 : 0 < k
 ·rw [if_pos h0]; simp
 ·rw [if_neg h0]; exact Int.le_antisymm (zi [] [k] (.h 1 (.n 0) (.w 0) .e) (.n 0) (.w 0) rfl h) (zi [] [k] (.h 1 (.w 0) (.n 0) .e) (.w 0) (.n 0) rfl (zIt h0))
theorem small0 (k : Int) (h0 : 0 ≤ k) (h : k < 5) : Builtin.Range.small 0 k 1 = true := by
 have : k = 0 ∨ k = 1 ∨ k = 2 ∨ k = 3 ∨ k = 4 := by exact oz48 h0 h
 rcases this with rfl | rfl | rfl | rfl | rfl <;> decide +kernel
theorem aD4 {number : Int} {n : Nat} (h0 : H (.lw n) = .free) (h1 : H (.lw (n + 1)) = .free)
  (h : ∀ H', H' (.lw n) = .live (.lst (strL (sigL number))) → (∀ i, i ≠ .lw n → i ≠ .lw (n + 1) → H' i = H i) → Q (.ref (.lw n)) H') : Cd Γ 3 (.ref 771) [.int number] H Q := by
 refine aSi fun P => ?_
 have key : ∀ al, al = alph number → al.length ≠ 0 → al.length ≤ 900 → Exs Γ fc_771 2 (List.drop 1 (bodyS (stAt 67))) [(oS "number", some (.int number)), (oS "signs", some (.str al)), (oS "rest", none), (oS "out", none), (oS "_", none)] H (RetQ Q) := by
  intro al hal hl0 hl1
  have f5 := fmod5 number
  nofun
  refine aA6 (.lw n) (aA7 ⟨rfl, h0, ?_⟩)
  nofun
  refine aAt (fun k ρ H1 => (∃ u, ρ = [(oS "number", some (.int number)), (oS "signs", some (.str al)), (oS "rest", some (.int (restG al k (number.fdiv 10)))), (oS "out", some (.ref (.lw n))), (oS "_", u)]) ∧
   H1 (.lw n) = .live (.lst (strL (signsG al k (number.fdiv 10)))) ∧ ∀ i, i ≠ .lw n → i ≠ .lw (n + 1) → H1 i = H i) ?_
  refine aKw ?_
  nofun
  have n1 : (Id.lw (n + 1)) ≠ .lw n := fun e => by cases e
  refine aMx (.lw (n + 1)) (aA0 n1 h1) ?_
  refine ⟨_, _, _, _, rfl, aA2, small0 _ f5.1 f5.2, by rw [rng0 _ f5.1]; exact f5.1, ?_⟩
  refine ⟨⟨⟨_, rfl⟩, (aA0 (Ne.symm n1) aA2), fun i a b => aA0 b (aA0 a rfl)⟩, fun _ _ _ _ => trivial, ?_, ?_⟩
  ·rintro k _ H1 u ⟨⟨u0, rfl⟩, hb, hc⟩ hu
   have hk : k < 5 := by
    have := (List.getElem?_eq_some_iff.mp hu).1
    rw [rngItems, List.length_map, List.length_range, rng0 _ f5.1] at this
    exact oz49 f5 this
   refine ⟨_, aAv (by wtm_at "m.put"), ?_⟩
   nofun
   refine aFi (by omega) ?_
   nofun
   have hf0 : 0 ≤ (restG al k (number.fdiv 10)).fmod al.length := Int.fmod_nonneg_of_pos _ (by exact oz51 hl0 hl1)
   have hf1 : (restG al k (number.fdiv 10)).fmod al.length < al.length := Int.fmod_lt_of_pos _ (by exact oz51 hl0 hl1)
   refine aW6 (n := ((restG al k (number.fdiv 10)).fmod al.length).toNat) (by omega) (c := (al.cps[((restG al k (number.fdiv 10)).fmod al.length).toNat]?).getD 0) ?_ (by exact oz52 hl1 hf1) ?_
   ·have hlt : ((restG al k (number.fdiv 10)).fmod al.length).toNat < al.cps.size := by
     have : al.cps.size = al.length := rfl
     exact oz53 hf0 hf1 this
    rw [Array.getElem?_eq_getElem hlt]; rfl
   nofun
   refine aA5 hb (by rw [strL, List.length_map, aDo]; omega) ?_
   nofun
   refine aFi (by omega) ?_
   nofun
   refine aSy (by exact oz54 hf0 hf1) (by exact (zn [al.length] (.h 1 (.v 0) (.n 900) .e) (.a (.v 0) (.n 1)) (.n 1000) rfl hl1 : al.length < 1000)) ?_
   nofun
   refine aAd ⟨⟨_, by rw [aG4]⟩, ?_, fun i a b => aA0 a (hc i a b)⟩
   rw [aF2, aA2]; simp [strL, chS]
  ·rintro _ H1 ⟨⟨u0, rfl⟩, hb, hc⟩
   nofun
   refine aA3 (h _ ?_ hc)
   have e : (rngItems 0 (number.fmod 5) 1).length = (number.fmod 5).toNat := by rw [rngItems, List.length_map, List.length_range, rng0 _ f5.1]
   rw [hb, e, hal]; rfl
 refine aAw (Ev.mono (Q := fun v H' => v = .str (alph number) ∧ H' = H) (aGd ?_) ?_)
 ·nofun
  ·rename_i e
   exact ⟨by rw [alph, if_pos (of_decide_eq_true e)], rfl⟩
  ·rename_i e
   exact ⟨by rw [alph, if_neg (of_decide_eq_false e)], rfl⟩
 ·rintro v H' ⟨rfl, rfl⟩
  refine aJg (by wtm_at "m.put") (key _ rfl ?_ ?_) <;> (unfold alph; split <;> first | rw [aV7] | rw [aV8]) <;> decide
abbrev U0 (i : Id) : Prop := ∃ k, i = .lw k
def UW (w i : Id) : Prop := (∃ k, i = .lw k) ∨ ((i = .lx 6 ∨ i = .lx 7 ∨ i = .lx 8) ∧ i ≠ w)
mutual
inductive LyT (U : Id → Prop) (H : AH) : AV → Tr → Prop
 | lf {k x : Str} : LyT U H (.tup [.str k, .str x]) (.lf k x)
 | el {i p c : Id} {nm : Str} {at_ : List (Str × Str)} {vs : List AV} {ts : List Tr} : U i → U p → U c → nm ≠ sText → H i = .live (.lst [.str nm, .ref p, .ref c]) → H p = .live (.lst (pairL at_)) → H c = .live (.lst vs) → LyTs U H vs ts → LyT U H (.ref i) (.el nm at_ ts)
inductive LyTs (U : Id → Prop) (H : AH) : List AV → List Tr → Prop
 | nil : LyTs U H [] []
 | cons {v : AV} {t : Tr} {vs : List AV} {ts : List Tr} : LyT U H v t → LyTs U H vs ts → LyTs U H (v :: vs) (t :: ts)
end
theorem aAb {H : AH} {i : Id} {o : AO} (h : H i = .live o) : H i ≠ .free := fun e => by rwa [h] at e
theorem LyT.keep {U U' : Id → Prop} {H H' : AH} (hu : ∀ i, U i → U' i) (k : ∀ i, U i → H i ≠ .free → H' i = H i) {v : AV} {t : Tr} (h : LyT U H v t) : LyT U' H' v t :=
 @LyT.rec U H (fun v t _ => LyT U' H' v t) (fun vs ts _ => LyTs U' H' vs ts) .lf (fun u1 u2 u3 hn h1 h2 h3 _ r => .el (hu _ u1) (hu _ u2) (hu _ u3) hn ((k _ u1 (aAb h1)).trans h1) ((k _ u2 (aAb h2)).trans h2) ((k _ u3 (aAb h3)).trans h3) r) .nil (fun _ _ a b => .cons a b) _ _ h
theorem LyTs.keep {U U' : Id → Prop} {H H' : AH} (hu : ∀ i, U i → U' i) (k : ∀ i, U i → H i ≠ .free → H' i = H i) {vs : List AV} {ts : List Tr} (h : LyTs U H vs ts) : LyTs U' H' vs ts :=
 @LyTs.rec U H (fun v t _ => LyT U' H' v t) (fun vs ts _ => LyTs U' H' vs ts) .lf (fun u1 u2 u3 hn h1 h2 h3 _ r => .el (hu _ u1) (hu _ u2) (hu _ u3) hn ((k _ u1 (aAb h1)).trans h1) ((k _ u2 (aAb h2)).trans h2) ((k _ u3 (aAb h3)).trans h3) r) .nil (fun _ _ a b => .cons a b) _ _ h
theorem LyTs.snoc {U : Id → Prop} {H : AH} {vs : List AV} {ts : List Tr} (h : LyTs U H vs ts) {v : AV} {t : Tr} (a : LyT U H v t) : LyTs U H (vs ++ [v]) (ts ++ [t]) := by
 induction vs generalizing ts with
 | nil => cases h; exact .cons a .nil
 | cons u vs ih => cases h with | cons b h => exact .cons b (ih h)
theorem LyTs.len {U : Id → Prop} {H : AH} {vs : List AV} {ts : List Tr} (h : LyTs U H vs ts) : vs.length = ts.length := by
 induction vs generalizing ts with
 | nil => cases h; rfl
 | cons u vs ih => cases h with | cons b h => rw [List.length_cons, List.length_cons, ih h]
theorem LyTs.unsnoc {U : Id → Prop} {H : AH} {vs : List AV} {ts : List Tr} (h : LyTs U H vs ts) (hn : vs ≠ []) : ∃ us v tt t, vs = us ++ [v] ∧ ts = tt ++ [t] ∧ LyTs U H us tt ∧ LyT U H v t := by
 induction vs generalizing ts with
 | nil => exact absurd rfl hn
 | cons u vs ih =>
  cases h with
  | cons b h =>
   rename_i t0 ts0
   cases vs with
   | nil => cases h; exact ⟨[], u, [], _, rfl, rfl, .nil, b⟩
   | cons x r =>
    obtain ⟨us, v, tt, t, e1, e2, a1, a2⟩ := ih h (by simp)
    exact ⟨u :: us, v, t0 :: tt, t, by rw [e1]; rfl, by rw [e2]; rfl, .cons b a1, a2⟩
inductive OwA (H : AH) : List AV → List (List (Str × Str)) → Prop
 | nil : OwA H [] []
 | cons {k : Nat} {at_ : List (Str × Str)} {os : List AV} {L : List (List (Str × Str))} : H (.lw k) = .live (.lst (pairL at_)) → OwA H os L → OwA H (.tup [.str "input", .ref (.lw k), .str "form"] :: os) (at_ :: L)
theorem OwA.keep {H H' : AH} (k : ∀ i, U0 i → H i ≠ .free → H' i = H i) {os : List AV} {L : List (List (Str × Str))} (h : OwA H os L) : OwA H' os L := by
 induction h with
 | nil => exact .nil
 | cons e _ ih => exact .cons ((k _ ⟨_, rfl⟩ (aAb e)).trans e) ih
theorem OwA.snoc {H : AH} {os : List AV} {L : List (List (Str × Str))} (h : OwA H os L) {k : Nat} {at_ : List (Str × Str)} (e : H (.lw k) = .live (.lst (pairL at_))) : OwA H (os ++ [.tup [.str "input", .ref (.lw k), .str "form"]]) (L ++ [at_]) := by
 induction h with
 | nil => exact .cons e .nil
 | cons a _ ih => exact .cons a ih
theorem OwA.len {H : AH} {os : List AV} {L : List (List (Str × Str))} (h : OwA H os L) : os.length = L.length := by
 induction h with
 | nil => rfl
 | cons a _ ih => rw [List.length_cons, List.length_cons, ih]
structure LS where
 toks : List AV
 es : List (Str × Str)
 run : List Str
 outs : List Tr
 ow : List (List (Str × Str))
 forms : Nat
 ts : List Tr
 inn : List Nat
def UI (L : List Nat) (w i : Id) : Prop := U0 i ∨ ((∃ k ∈ L, i = .lx k) ∧ UW w i)
noncomputable def stF (r f : Nat) : List (Str × AV) := [(oS "tokens", .ref (.lx 1)), (oS "errors", .ref (.lx 2)), (oS "run", .ref (.lx r)), (oS "outside", .ref (.lx 4)), (oS "owned", .ref (.lx 5)), (oS "forms", .int f)]
def TxOk (n : Nat) (ts : List Tr) : Prop := ∀ k x, Tr.lf k x ∈ ts → x.length ≤ 2 * n
theorem TxOk.mono {n n' : Nat} {ts : List Tr} (h : TxOk n ts) (l : n ≤ n') : TxOk n' ts := fun k x q => by have := h k x q; exact zn [x.length, n, n'] (.h 2 (.v 1) (.v 2) (.h 1 (.v 0) (.m 2 (.v 1)) .e)) (.v 0) (.m 2 (.v 2)) rfl l this
theorem TxOk.snoc {n : Nat} {ts : List Tr} {t : Tr} (h : TxOk n ts) (k : ∀ a x, t = .lf a x → x.length ≤ 2 * n) : TxOk n (ts ++ [t]) := fun a x q => by
 rcases List.mem_append.mp q with q | q
 ·exact h a x q
 ·exact k a x (List.mem_singleton.mp q).symm
structure LawH (w : Id) (H : AH) (n r j : Nat) (s : LS) : Prop where
 d : H (.lx 0) = .live (.dcs (stF r s.forms))
 toks : H (.lx 1) = .live (.lst s.toks)
 es : H (.lx 2) = .live (.lst (pairL s.es))
 run : H (.lx r) = .live (.lst (strL s.run))
 outs : ∃ vs, H (.lx 4) = .live (.lst vs) ∧ LyTs U0 H vs s.outs
 ow : ∃ os, H (.lx 5) = .live (.lst os) ∧ OwA H os s.ow
 ts : ∃ vs, H w = .live (.lst vs) ∧ LyTs (UI s.inn w) H vs s.ts
 fr : ∀ k, n ≤ k → H (.lw k) = .free
 fx : ∀ k, j < k → H (.lx k) = .free
 oth : ∀ i, (∀ k, i ≠ .lw k) → (∀ k, i ≠ .lx k) → H i = .free
 ww : w = .lx 6 ∨ w = .lx 7 ∨ w = .lx 8
 rj : 10 ≤ r ∧ r ≤ j
 sz : s.toks.length ≤ n ∧ s.es.length ≤ n ∧ s.run.length ≤ n ∧ s.outs.length ≤ n ∧ s.ow.length ≤ n ∧ s.ts.length ≤ n ∧ s.forms ≤ n
 tx : TxOk n s.outs ∧ TxOk n s.ts
def FrW (w : Id) (H H' : AH) : Prop := ∀ i, UW w i → H i ≠ .free → H' i = H i
theorem FrW.refl {w : Id} {H : AH} : FrW w H H := fun _ _ _ => rfl
theorem FrW.trans {w : Id} {H H' H'' : AH} (a : FrW w H H') (b : FrW w H' H'') : FrW w H H'' := fun i u f => (b i u (by rw [a i u f]; exact f)).trans (a i u f)
theorem FrW.lw {w : Id} {H H' : AH} (a : FrW w H H') {k : Nat} {o : AO} (h : H (.lw k) = .live o) : H' (.lw k) = .live o := (a _ (.inl ⟨_, rfl⟩) (aAb h)).trans h
theorem FrW.u0 {w : Id} {H H' : AH} (a : FrW w H H') : ∀ i, U0 i → H i ≠ .free → H' i = H i := fun i u f => a i (.inl u) f
theorem FrW.ui {L : List Nat} {w : Id} {H H' : AH} (a : FrW w H H') : ∀ i, UI L w i → H i ≠ .free → H' i = H i := fun i u f => by
 rcases u with u | ⟨_, u⟩
 ·exact a i (.inl u) f
 ·exact a i u f
theorem aBh {w i : Id} {H : AH} {c : Cell} (h : H i = .free ∨ ¬ UW w i) : FrW w H (upd H i c) := fun q u f => aA0 (by
 rintro rfl
 rcases h with h | h
 ·exact f h
 ·exact h u) rfl
section
variable {w : Id} {n r j : Nat} {s : LS}
theorem LawH.wne (S : LawH w H n r j s) {k : Nat} (h : k ≠ 6 ∧ k ≠ 7 ∧ k ≠ 8) : w ≠ .lx k := fun e => by
 rcases S.ww with q | q | q <;> rw [q] at e <;> injection e <;> (first | exact h.1 (Eq.symm ‹_›) | exact h.2.1 (Eq.symm ‹_›) | exact h.2.2 (Eq.symm ‹_›))
theorem LawH.wlw (S : LawH w H n r j s) {k : Nat} : w ≠ .lw k := fun e => by
 rcases S.ww with q | q | q <;> rw [q] at e <;> cases e
theorem nUW {w : Id} {k : Nat} (h : k ≠ 6 ∧ k ≠ 7 ∧ k ≠ 8) : ¬ UW w (.lx k) := by
 rintro (⟨_, e⟩ | ⟨e | e | e, _⟩) <;> first | cases e; done | (injection e; first | exact h.1 ‹_› | exact h.2.1 ‹_› | exact h.2.2 ‹_›)
theorem nUWw {w : Id} (S : LawH w H n r j s) : ¬ UW w w := by
 rintro (⟨_, e⟩ | ⟨_, e⟩)
 ·exact S.wlw e
 ·exact e rfl
theorem LawH.mono (S : LawH w H n r j s) {n' : Nat} (l : n ≤ n') : LawH w H n' r j s := by
 obtain ⟨a1, a2, a3, a4, a5, a6, a7⟩ := S.sz
 exact ⟨S.d, S.toks, S.es, S.run, S.outs, S.ow, S.ts, fun k hk => S.fr k (by omega), S.fx, S.oth, S.ww, S.rj, ⟨by omega, by omega, by omega, by omega, by omega, by omega, by omega⟩, S.tx.1.mono l, S.tx.2.mono l⟩
theorem LawH.tmp (S : LawH w H n r j s) {c : Cell} : LawH w (upd H (.lw n) (c)) (n + 1) r j (s) ∧ FrW w H (upd H (.lw n) (c)) := by
 have rj := S.rj
 refine hZ fun GZ kZ => ?_
 obtain ⟨a1, a2, a3, a4, a5, a6, a7⟩ := S.sz
 have fw : FrW w H (upd H (.lw n) (c)) := aBh (.inl (S.fr n (Nat.le_refl _)))
 refine kZ ?_
 exact ⟨⟨aA0 nofun S.d, aA0 nofun (S.toks), aA0 nofun (S.es), aA0 nofun (S.run), (let ⟨vs, e, l⟩ := S.outs; ⟨vs, aA0 nofun (e), l.keep (fun _ q => q) fw.u0⟩), (let ⟨vs, e, l⟩ := S.ow; ⟨vs, aA0 nofun (e), l.keep fw.u0⟩), (let ⟨vs, e, l⟩ := S.ts; ⟨vs, aA0 (S.wlw) (e), l.keep (fun _ q => q) fw.ui⟩), fun k hk => aA0 ((fun e => by injection e; omega)) (S.fr k (by omega)), fun k hk => aA0 nofun (S.fx k (by omega)), fun i a b => aA0 (a _) (S.oth i a b), S.ww, ⟨by omega, by omega⟩, ⟨Nat.le_succ_of_le a1, Nat.le_succ_of_le a2, Nat.le_succ_of_le a3, Nat.le_succ_of_le a4, Nat.le_succ_of_le a5, Nat.le_succ_of_le a6, Nat.le_succ_of_le a7⟩, ⟨S.tx.1.mono (by omega), S.tx.2.mono (by omega)⟩⟩, fw⟩
theorem LawH.tmpx (S : LawH w H n r j s) {c : Cell} : LawH w (upd H (.lx (j + 1)) (c)) (n + 1) r (j + 1) (s) ∧ FrW w H (upd H (.lx (j + 1)) (c)) := by
 have rj := S.rj
 obtain ⟨a1, a2, a3, a4, a5, a6, a7⟩ := S.sz
 have fw : FrW w H (upd H (.lx (j + 1)) (c)) := aBh (.inl (S.fx _ (Nat.lt_succ_self _)))
 exact ⟨⟨aA0 (fun e => by injection e; omega) S.d, aA0 ((fun e => by injection e; exact oz61 rj ‹_›)) (S.toks), aA0 ((fun e => by injection e; exact oz62 rj ‹_›)) (S.es), aA0 ((fun e => by injection e; exact oz63 rj ‹_›)) (S.run), (let ⟨vs, e, l⟩ := S.outs; ⟨vs, aA0 ((fun e => by injection e; exact oz64 rj ‹_›)) (e), l.keep (fun _ q => q) fw.u0⟩), (let ⟨vs, e, l⟩ := S.ow; ⟨vs, aA0 ((fun e => by injection e; exact oz65 rj ‹_›)) (e), l.keep fw.u0⟩), (let ⟨vs, e, l⟩ := S.ts; ⟨vs, aA0 (S.wne (by exact oz66 rj)) (e), l.keep (fun _ q => q) fw.ui⟩), fun k hk => aA0 nofun (S.fr k (by omega)), fun k hk => aA0 ((fun e => by injection e; exact oz67 hk ‹_›)) (S.fx k (by exact zn [j, k] (.h 1 (.a (.a (.v 0) (.n 1)) (.n 1)) (.v 1) .e) (.a (.v 0) (.n 1)) (.v 1) rfl hk)), fun i a b => aA0 (b _) (S.oth i a b), S.ww, ⟨by omega, by exact zn [r, j] (.h 1 (.v 0) (.v 1) .e) (.v 0) (.a (.v 1) (.n 1)) rfl rj.2⟩, ⟨Nat.le_succ_of_le a1, Nat.le_succ_of_le a2, Nat.le_succ_of_le a3, Nat.le_succ_of_le a4, Nat.le_succ_of_le a5, Nat.le_succ_of_le a6, Nat.le_succ_of_le a7⟩, ⟨S.tx.1.mono (by omega), S.tx.2.mono (by omega)⟩⟩, fw⟩
theorem LawH.loc (S : LawH w H n r j s) {q : Nat} {c : Cell} (hq : 10 ≤ q ∧ q ≤ j ∧ q ≠ r) : LawH w (upd H (.lx q) (c)) (n + 1) r j (s) ∧ FrW w H (upd H (.lx q) (c)) := by
 have rj := S.rj
 obtain ⟨a1, a2, a3, a4, a5, a6, a7⟩ := S.sz
 have fw : FrW w H (upd H (.lx q) (c)) := aBh (.inr (nUW (by exact oz70 hq)))
 exact ⟨⟨aA0 (fun e => by injection e; exact oz71 hq ‹_›) S.d, aA0 ((fun e => by injection e; exact oz72 hq ‹_›)) (S.toks), aA0 ((fun e => by injection e; exact oz73 hq ‹_›)) (S.es), aA0 ((fun e => by injection e; exact oz74 hq ‹_›)) (S.run), (let ⟨vs, e, l⟩ := S.outs; ⟨vs, aA0 ((fun e => by injection e; exact oz75 hq ‹_›)) (e), l.keep (fun _ q => q) fw.u0⟩), (let ⟨vs, e, l⟩ := S.ow; ⟨vs, aA0 ((fun e => by injection e; exact oz76 hq ‹_›)) (e), l.keep fw.u0⟩), (let ⟨vs, e, l⟩ := S.ts; ⟨vs, aA0 (S.wne (by exact oz70 hq)) (e), l.keep (fun _ q => q) fw.ui⟩), fun k hk => aA0 nofun (S.fr k (by omega)), fun k hk => aA0 ((fun e => by injection e; exact oz77 hq hk ‹_›)) (S.fx k (by omega)), fun i a b => aA0 (b _) (S.oth i a b), S.ww, ⟨by omega, by omega⟩, ⟨Nat.le_succ_of_le a1, Nat.le_succ_of_le a2, Nat.le_succ_of_le a3, Nat.le_succ_of_le a4, Nat.le_succ_of_le a5, Nat.le_succ_of_le a6, Nat.le_succ_of_le a7⟩, ⟨S.tx.1.mono (by omega), S.tx.2.mono (by omega)⟩⟩, fw⟩
theorem LawH.addTok (S : LawH w H n r j s) {v : AV} : LawH w (upd H (.lx 1) (.live (.lst (s.toks ++ [v])))) (n + 1) r j ({ s with toks := s.toks ++ [v] }) ∧ FrW w H (upd H (.lx 1) (.live (.lst (s.toks ++ [v])))) := by
 have rj := S.rj
 obtain ⟨a1, a2, a3, a4, a5, a6, a7⟩ := S.sz
 have fw : FrW w H (upd H (.lx 1) (.live (.lst (s.toks ++ [v])))) := aBh (.inr (nUW (by omega)))
 exact ⟨⟨aA0 (fun e => by injection e; omega) S.d, aA2, aA0 ((fun e => by injection e; omega)) (S.es), aA0 ((fun e => by injection e; omega)) (S.run), (let ⟨vs, e, l⟩ := S.outs; ⟨vs, aA0 ((fun e => by injection e; omega)) (e), l.keep (fun _ q => q) fw.u0⟩), (let ⟨vs, e, l⟩ := S.ow; ⟨vs, aA0 ((fun e => by injection e; omega)) (e), l.keep fw.u0⟩), (let ⟨vs, e, l⟩ := S.ts; ⟨vs, aA0 (S.wne (by omega)) (e), l.keep (fun _ q => q) fw.ui⟩), fun k hk => aA0 nofun (S.fr k (by omega)), fun k hk => aA0 ((fun e => by injection e; omega)) (S.fx k (by omega)), fun i a b => aA0 (b _) (S.oth i a b), S.ww, ⟨by omega, by omega⟩, ⟨by rw [List.length_append]; exact Nat.succ_le_succ a1, Nat.le_succ_of_le a2, Nat.le_succ_of_le a3, Nat.le_succ_of_le a4, Nat.le_succ_of_le a5, Nat.le_succ_of_le a6, Nat.le_succ_of_le a7⟩, ⟨S.tx.1.mono (by omega), S.tx.2.mono (by omega)⟩⟩, fw⟩
theorem LawH.addErr (S : LawH w H n r j s) {a b : Str} : LawH w (upd H (.lx 2) (.live (.lst (pairL s.es ++ [.tup [.str a, .str b]])))) (n + 1) r j ({ s with es := s.es ++ [(a, b)] }) ∧ FrW w H (upd H (.lx 2) (.live (.lst (pairL s.es ++ [.tup [.str a, .str b]])))) := by
 have rj := S.rj
 obtain ⟨a1, a2, a3, a4, a5, a6, a7⟩ := S.sz
 have fw : FrW w H (upd H (.lx 2) (.live (.lst (pairL s.es ++ [.tup [.str a, .str b]])))) := aBh (.inr (nUW (by omega)))
 exact ⟨⟨aA0 (fun e => by injection e; omega) S.d, aA0 ((fun e => by injection e; omega)) (S.toks), by rw [aA2]; simp [pairL, pairA], aA0 ((fun e => by injection e; omega)) (S.run), (let ⟨vs, e, l⟩ := S.outs; ⟨vs, aA0 ((fun e => by injection e; omega)) (e), l.keep (fun _ q => q) fw.u0⟩), (let ⟨vs, e, l⟩ := S.ow; ⟨vs, aA0 ((fun e => by injection e; omega)) (e), l.keep fw.u0⟩), (let ⟨vs, e, l⟩ := S.ts; ⟨vs, aA0 (S.wne (by omega)) (e), l.keep (fun _ q => q) fw.ui⟩), fun k hk => aA0 nofun (S.fr k (by omega)), fun k hk => aA0 ((fun e => by injection e; omega)) (S.fx k (by omega)), fun i a b => aA0 (b _) (S.oth i a b), S.ww, ⟨by omega, by omega⟩, ⟨Nat.le_succ_of_le a1, by rw [List.length_append]; exact Nat.succ_le_succ a2, Nat.le_succ_of_le a3, Nat.le_succ_of_le a4, Nat.le_succ_of_le a5, Nat.le_succ_of_le a6, Nat.le_succ_of_le a7⟩, ⟨S.tx.1.mono (by omega), S.tx.2.mono (by omega)⟩⟩, fw⟩
theorem LawH.addRun (S : LawH w H n r j s) {a : Str} : LawH w (upd H (.lx r) (.live (.lst (strL s.run ++ [.str a])))) (n + 1) r j ({ s with run := s.run ++ [a] }) ∧ FrW w H (upd H (.lx r) (.live (.lst (strL s.run ++ [.str a])))) := by
 have rj := S.rj
 obtain ⟨a1, a2, a3, a4, a5, a6, a7⟩ := S.sz
 have fw : FrW w H (upd H (.lx r) (.live (.lst (strL s.run ++ [.str a])))) := aBh (.inr (nUW (by have := S.rj; exact oz78 rj)))
 exact ⟨⟨aA0 (fun e => by injection e; omega) S.d, aA0 ((fun e => by injection e; omega)) (S.toks), aA0 ((fun e => by injection e; omega)) (S.es), by rw [aA2]; simp [strL], (let ⟨vs, e, l⟩ := S.outs; ⟨vs, aA0 ((fun e => by injection e; omega)) (e), l.keep (fun _ q => q) fw.u0⟩), (let ⟨vs, e, l⟩ := S.ow; ⟨vs, aA0 ((fun e => by injection e; omega)) (e), l.keep fw.u0⟩), (let ⟨vs, e, l⟩ := S.ts; ⟨vs, aA0 (S.wne (by exact oz78 rj)) (e), l.keep (fun _ q => q) fw.ui⟩), fun k hk => aA0 nofun (S.fr k (by omega)), fun k hk => aA0 ((fun e => by injection e; exact oz79 rj hk ‹_›)) (S.fx k (by omega)), fun i a b => aA0 (b _) (S.oth i a b), S.ww, ⟨by omega, by omega⟩, ⟨Nat.le_succ_of_le a1, Nat.le_succ_of_le a2, by rw [List.length_append]; exact Nat.succ_le_succ a3, Nat.le_succ_of_le a4, Nat.le_succ_of_le a5, Nat.le_succ_of_le a6, Nat.le_succ_of_le a7⟩, ⟨S.tx.1.mono (by omega), S.tx.2.mono (by omega)⟩⟩, fw⟩
theorem LawH.setRun (S : LawH w H n r j s) {q : Nat} {l : List Str} (hq : 10 ≤ q ∧ q ≤ j) (hl : H (.lx q) = .live (.lst (strL l))) (hz : l.length ≤ n + 1) : LawH w (upd H (.lx 0) (.live (.dcs (stF q s.forms)))) (n + 1) q j ({ s with run := l }) ∧ FrW w H (upd H (.lx 0) (.live (.dcs (stF q s.forms)))) := by
 have rj := S.rj
 obtain ⟨a1, a2, a3, a4, a5, a6, a7⟩ := S.sz
 have fw : FrW w H (upd H (.lx 0) (.live (.dcs (stF q s.forms)))) := aBh (.inr (nUW (by omega)))
 exact ⟨⟨aA2, aA0 ((fun e => by injection e; omega)) (S.toks), aA0 ((fun e => by injection e; omega)) (S.es), aA0 (fun e => by injection e; exact oz80 hq ‹_›) hl, (let ⟨vs, e, l⟩ := S.outs; ⟨vs, aA0 ((fun e => by injection e; omega)) (e), l.keep (fun _ q => q) fw.u0⟩), (let ⟨vs, e, l⟩ := S.ow; ⟨vs, aA0 ((fun e => by injection e; omega)) (e), l.keep fw.u0⟩), (let ⟨vs, e, l⟩ := S.ts; ⟨vs, aA0 (S.wne (by omega)) (e), l.keep (fun _ q => q) fw.ui⟩), fun k hk => aA0 nofun (S.fr k (by omega)), fun k hk => aA0 ((fun e => by injection e; omega)) (S.fx k (by omega)), fun i a b => aA0 (b _) (S.oth i a b), S.ww, ⟨by omega, by omega⟩, ⟨Nat.le_succ_of_le a1, Nat.le_succ_of_le a2, hz, Nat.le_succ_of_le a4, Nat.le_succ_of_le a5, Nat.le_succ_of_le a6, Nat.le_succ_of_le a7⟩, ⟨S.tx.1.mono (by omega), S.tx.2.mono (by omega)⟩⟩, fw⟩
theorem LawH.setForms (S : LawH w H n r j s)  : LawH w (upd H (.lx 0) (.live (.dcs (stF r (s.forms + 1))))) (n + 1) r j ({ s with forms := s.forms + 1 }) ∧ FrW w H (upd H (.lx 0) (.live (.dcs (stF r (s.forms + 1))))) := by
 have rj := S.rj
 obtain ⟨a1, a2, a3, a4, a5, a6, a7⟩ := S.sz
 have fw : FrW w H (upd H (.lx 0) (.live (.dcs (stF r (s.forms + 1))))) := aBh (.inr (nUW (by omega)))
 exact ⟨⟨aA2, aA0 ((fun e => by injection e; omega)) (S.toks), aA0 ((fun e => by injection e; omega)) (S.es), aA0 ((fun e => by injection e; omega)) (S.run), (let ⟨vs, e, l⟩ := S.outs; ⟨vs, aA0 ((fun e => by injection e; omega)) (e), l.keep (fun _ q => q) fw.u0⟩), (let ⟨vs, e, l⟩ := S.ow; ⟨vs, aA0 ((fun e => by injection e; omega)) (e), l.keep fw.u0⟩), (let ⟨vs, e, l⟩ := S.ts; ⟨vs, aA0 (S.wne (by omega)) (e), l.keep (fun _ q => q) fw.ui⟩), fun k hk => aA0 nofun (S.fr k (by omega)), fun k hk => aA0 ((fun e => by injection e; omega)) (S.fx k (by omega)), fun i a b => aA0 (b _) (S.oth i a b), S.ww, ⟨by omega, by omega⟩, ⟨Nat.le_succ_of_le a1, Nat.le_succ_of_le a2, Nat.le_succ_of_le a3, Nat.le_succ_of_le a4, Nat.le_succ_of_le a5, Nat.le_succ_of_le a6, Nat.succ_le_succ a7⟩, ⟨S.tx.1.mono (by omega), S.tx.2.mono (by omega)⟩⟩, fw⟩
theorem LawH.setOuts (S : LawH w H n r j s) {vs : List AV} {l : List Tr} (hl : LyTs U0 H vs l) (hz : l.length ≤ n + 1) (ht : TxOk (n + 1) l) : LawH w (upd H (.lx 4) (.live (.lst vs))) (n + 1) r j ({ s with outs := l }) ∧ FrW w H (upd H (.lx 4) (.live (.lst vs))) := by
 have rj := S.rj
 obtain ⟨a1, a2, a3, a4, a5, a6, a7⟩ := S.sz
 have fw : FrW w H (upd H (.lx 4) (.live (.lst vs))) := aBh (.inr (nUW (by omega)))
 exact ⟨⟨aA0 (fun e => by injection e; omega) S.d, aA0 ((fun e => by injection e; omega)) (S.toks), aA0 ((fun e => by injection e; omega)) (S.es), aA0 ((fun e => by injection e; omega)) (S.run), ⟨vs, aA2, hl.keep (fun _ q => q) fw.u0⟩, (let ⟨vs, e, l⟩ := S.ow; ⟨vs, aA0 ((fun e => by injection e; omega)) (e), l.keep fw.u0⟩), (let ⟨vs, e, l⟩ := S.ts; ⟨vs, aA0 (S.wne (by omega)) (e), l.keep (fun _ q => q) fw.ui⟩), fun k hk => aA0 nofun (S.fr k (by omega)), fun k hk => aA0 ((fun e => by injection e; omega)) (S.fx k (by omega)), fun i a b => aA0 (b _) (S.oth i a b), S.ww, ⟨by omega, by omega⟩, ⟨Nat.le_succ_of_le a1, Nat.le_succ_of_le a2, Nat.le_succ_of_le a3, hz, Nat.le_succ_of_le a5, Nat.le_succ_of_le a6, Nat.le_succ_of_le a7⟩, ⟨ht, S.tx.2.mono (by omega)⟩⟩, fw⟩
theorem LawH.setTs (S : LawH w H n r j s) {vs : List AV} {l : List Tr} (hl : LyTs (UI s.inn w) H vs l) (hz : l.length ≤ n + 1) (ht : TxOk (n + 1) l) : LawH w (upd H (w) (.live (.lst vs))) (n + 1) r j ({ s with ts := l }) ∧ FrW w H (upd H (w) (.live (.lst vs))) := by
 have rj := S.rj
 obtain ⟨a1, a2, a3, a4, a5, a6, a7⟩ := S.sz
 have fw : FrW w H (upd H (w) (.live (.lst vs))) := aBh (.inr (nUWw S))
 exact ⟨⟨aA0 (Ne.symm (S.wne (by omega))) S.d, aA0 ((Ne.symm (S.wne (by omega)))) (S.toks), aA0 ((Ne.symm (S.wne (by omega)))) (S.es), aA0 ((Ne.symm (S.wne (by exact oz78 rj)))) (S.run), (let ⟨vs, e, l⟩ := S.outs; ⟨vs, aA0 ((Ne.symm (S.wne (by omega)))) (e), l.keep (fun _ q => q) fw.u0⟩), (let ⟨vs, e, l⟩ := S.ow; ⟨vs, aA0 ((Ne.symm (S.wne (by omega)))) (e), l.keep fw.u0⟩), ⟨vs, aA2, hl.keep (fun _ q => q) fw.ui⟩, fun k hk => aA0 ((Ne.symm (S.wlw))) (S.fr k (by omega)), fun k hk => aA0 (Ne.symm (S.wne (by exact oz81 rj hk))) (S.fx k hk), fun i a b => aA0 (by rintro rfl; rcases S.ww with q | q | q <;> exact b _ q) (S.oth i a b), S.ww, ⟨by omega, by omega⟩, ⟨Nat.le_succ_of_le a1, Nat.le_succ_of_le a2, Nat.le_succ_of_le a3, Nat.le_succ_of_le a4, Nat.le_succ_of_le a5, hz, Nat.le_succ_of_le a7⟩, ⟨S.tx.1.mono (by omega), ht⟩⟩, fw⟩
theorem LawH.addOw (S : LawH w H n r j s) {os : List AV} {l : List (List (Str × Str))} (hl : OwA H os l) (hz : l.length ≤ n + 1) : LawH w (upd H (.lx 5) (.live (.lst os))) (n + 1) r j ({ s with ow := l }) ∧ FrW w H (upd H (.lx 5) (.live (.lst os))) := by
 have rj := S.rj
 obtain ⟨a1, a2, a3, a4, a5, a6, a7⟩ := S.sz
 have fw : FrW w H (upd H (.lx 5) (.live (.lst os))) := aBh (.inr (nUW (by omega)))
 exact ⟨⟨aA0 (fun e => by injection e; omega) S.d, aA0 ((fun e => by injection e; omega)) (S.toks), aA0 ((fun e => by injection e; omega)) (S.es), aA0 ((fun e => by injection e; omega)) (S.run), (let ⟨vs, e, l⟩ := S.outs; ⟨vs, aA0 ((fun e => by injection e; omega)) (e), l.keep (fun _ q => q) fw.u0⟩), ⟨os, aA2, hl.keep fw.u0⟩, (let ⟨vs, e, l⟩ := S.ts; ⟨vs, aA0 (S.wne (by omega)) (e), l.keep (fun _ q => q) fw.ui⟩), fun k hk => aA0 nofun (S.fr k (by omega)), fun k hk => aA0 ((fun e => by injection e; omega)) (S.fx k (by omega)), fun i a b => aA0 (b _) (S.oth i a b), S.ww, ⟨by omega, by omega⟩, ⟨Nat.le_succ_of_le a1, Nat.le_succ_of_le a2, Nat.le_succ_of_le a3, Nat.le_succ_of_le a4, hz, Nat.le_succ_of_le a6, Nat.le_succ_of_le a7⟩, ⟨S.tx.1.mono (by omega), S.tx.2.mono (by omega)⟩⟩, fw⟩
end
section
variable {w : Id} {n r j : Nat} {s : LS}
theorem aPx (S : LawH w H n r j s) (h : Q (.ref (.lx 1)) H) : Sb Γ d (.ref (.lx 0)) (.str "tokens") H Q := aB9 S.d (.head _) h
theorem aPu (S : LawH w H n r j s) (h : Q (.ref (.lx 2)) H) : Sb Γ d (.ref (.lx 0)) (.str "errors") H Q := aB9 S.d (.tail _ (.head _)) h
theorem aPw (S : LawH w H n r j s) (h : Q (.ref (.lx r)) H) : Sb Γ d (.ref (.lx 0)) (.str "run") H Q := aB9 S.d (.tail _ (.tail _ (.head _))) h
theorem aKy (S : LawH w H n r j s) (h : Q (.ref (.lx 4)) H) : Sb Γ d (.ref (.lx 0)) (.str "outside") H Q := aB9 S.d (.tail _ (.tail _ (.tail _ (.head _)))) h
theorem aPv (S : LawH w H n r j s) (h : Q (.ref (.lx 5)) H) : Sb Γ d (.ref (.lx 0)) (.str "owned") H Q := aB9 S.d (.tail _ (.tail _ (.tail _ (.tail _ (.head _))))) h
theorem aM4 (S : LawH w H n r j s) (h : Q (.int s.forms) H) : Sb Γ d (.ref (.lx 0)) (.str "forms") H Q := aB9 S.d (.tail _ (.tail _ (.tail _ (.tail _ (.tail _ (.head _)))))) h
theorem LawH.ow1 (S : LawH w H n r j s) : H (.lx 5) = .live (.lst S.ow.choose) := S.ow.choose_spec.1
theorem LawH.ts1 (S : LawH w H n r j s) : H w = .live (.lst S.ts.choose) := S.ts.choose_spec.1
theorem aPi {v : AV} (S : LawH w H n r j s) (hn : n ≤ 90000) (h : ∀ H', LawH w H' (n + 1) r j { s with toks := s.toks ++ [v] } → FrW w H H' → (∀ q, q ≠ .lx 1 → H' q = H q) → Q .none H') : Cl Γ d (.builtin "list.append") [.ref (.lx 1), v] H Q :=
 aA5 S.toks (by have := S.sz.1; omega) (h _ S.addTok.1 S.addTok.2 fun _ q => aA0 q rfl)
theorem aPg {a b : Str} (S : LawH w H n r j s) (hn : n ≤ 90000) (h : ∀ H', LawH w H' (n + 1) r j { s with es := s.es ++ [(a, b)] } → FrW w H H' → (∀ q, q ≠ .lx 2 → H' q = H q) → Q .none H') : Cl Γ d (.builtin "list.append") [.ref (.lx 2), .tup [.str a, .str b]] H Q :=
 aA5 S.es (by rw [pairL, List.length_map]; have := S.sz.2.1; omega) (h _ S.addErr.1 S.addErr.2 fun _ q => aA0 q rfl)
theorem aPh {a : Str} (S : LawH w H n r j s) (hn : n ≤ 90000) (h : ∀ H', LawH w H' (n + 1) r j { s with run := s.run ++ [a] } → FrW w H H' → (∀ q, q ≠ .lx r → H' q = H q) → Q .none H') : Cl Γ d (.builtin "list.append") [.ref (.lx r), .str a] H Q :=
 aA5 S.run (by rw [strL, List.length_map]; have := S.sz.2.2.1; omega) (h _ S.addRun.1 S.addRun.2 fun _ q => aA0 q rfl)
end
noncomputable def putN (ts : List Tr) (x : Str) : List Tr := if x = sNul then ts else putT ts x
theorem aZd {i : Id} {c : Cell} (h : H i = c) : upd H i c = H := by
 funext q
 unfold upd
 split
 ·rename_i e; rw [e, h]
 ·rfl
theorem aI9 {U : Id → Prop} {q : Id} {vs : List AV} {ts : List Tr} {x : Str} (hq : H q = .live (.lst vs)) (hl : LyTs U H vs ts) (hz : vs.length ≤ 90000) (tx : TxOk 90000 ts) (hx : x.length ≤ 2)
  (h : ∀ vs', LyTs U H vs' (putN ts x) → vs'.length ≤ vs.length + 1 → Q .none (upd H q (.live (.lst vs')))) : Cd Γ 3 (.ref 778) [.ref q, .str x] H Q := by
 refine aSj fun P => ?_
 by_cases hn : x = sNul
 ·subst hn
  have h' := h vs (by rw [putN, if_pos rfl]; exact hl) (Nat.le_succ _)
  rw [aZd hq] at h'
  nofun
  exact aA3 h'
 ·rw [putN, if_neg hn] at h
  have add : (∀ us s, ts ≠ us ++ [.lf sText s]) → Q .none (upd H q (.live (.lst (vs ++ [.tup [.str sText, .str x]])))) := fun hno => h _ (by rw [aCm hno]; exact hl.snoc .lf) (by simp)
  nofun
  by_cases hv : vs = []
  ·refine hZ fun GZ kZ => ?_
   subst hv
   cases hl
   refine kZ ?_
   refine aNt hq (by simp) (aXy rfl ?_)
   nofun
   refine aA5 hq (by simp) ?_
   nofun
   exact aA1 (add (by simp))
  ·refine hZ fun GZ kZ => ?_
   obtain ⟨us, v, tt, t, rfl, rfl, l1, l2⟩ := hl.unsnoc hv
   refine kZ ?_
   refine aNt hq (by omega) ?_
   have he : (!(us ++ [v]).isEmpty) = true := by simp
   rw [he]
   nofun
   refine aGg hq (v := v) (by simp) ?_
   cases l2 with
   | @lf k x0 =>
    nofun
    ·rename_i e
     have e : k = sText := of_decide_eq_true e
     subst e
     refine aGg hq (v := .tup [.str sText, .str x0]) (by simp) ?_
     nofun
     refine aT0 (by have := tx _ _ (List.mem_append_right _ (.head _)); exact zn [x0.length, x.length] (.h 1 (.v 1) (.n 2) (.h 1 (.v 0) (.m 2 (.n 90000)) .e)) (.a (.v 0) (.v 1)) (.n 1000000) rfl hx this) ?_
     nofun
     refine aU0 hq (by simp) (by omega) ?_
     nofun
     refine aA1 (h _ ?_ (by simp))
     rw [aBr]
     have : (us ++ [AV.tup [.str sText, .str x0]]).set ((us ++ [AV.tup [.str sText, .str x0]]).length - 1) (.tup [.str "text", .str (x0 ++ x)]) = us ++ [.tup [.str sText, .str (x0 ++ x)]] := by simp
     rw [this]
     exact l1.snoc .lf
    ·rename_i e
     have e : k ≠ sText := of_decide_eq_false e
     refine aA5 hq (by omega) ?_
     nofun
     refine aA1 (add fun us s q => ?_)
     have := (List.append_inj' q rfl).2
     simp at this
     exact e this.1
   | @el i p c nm at_ ws tw u1 u2 u3 hnm h1 h2 h3 h4 =>
    refine aFl (aC7 (n := 0) h1 rfl rfl (by omega) ?_)
    nofun
    refine aA5 hq (by omega) ?_
    nofun
    refine aA1 (add fun us s q => ?_)
    have := (List.append_inj' q rfl).2
    simp at this
noncomputable def read1 (s : LS) (x : Str) : LS := { s with toks := s.toks ++ [chTok x], es := if x = sNul then s.es ++ [eNul] else s.es, run := if x = sNul then s.run else s.run ++ [x] }
noncomputable def readS (s : LS) (l : List Str) : LS := l.foldl read1 s
theorem aG2 {s : LS} {l : List Str} {i : Nat} {x : Str} (h : l[i]? = some x) : readS s (l.take (i + 1)) = read1 (readS s (l.take i)) x := by
 rw [readS, List.take_add_one, h, List.foldl_append]; rfl
theorem aC3 {l : List Str} {k : Nat} {u : AV} (h : (strL l)[k]? = some u) : ∃ x, u = .str x ∧ l[k]? = some x := by
 rw [strL, List.getElem?_map] at h
 obtain ⟨x, h1, rfl⟩ := Option.map_eq_some_iff.mp h
 exact ⟨x, rfl, h1⟩
section
variable {w : Id} {n r j : Nat} {s : LS}
theorem aO7 {q : Nat} {l : List Str} (S : LawH w H n r j s) (hq : H (.lw q) = .live (.lst (strL l))) (hz : n + 2 * l.length ≤ 80000)
  (h : ∀ H', LawH w H' (n + 2 * l.length) r j (readS s l) → FrW w H H' → Q .none H') : Cd Γ 3 (.ref 785) [.ref (.lx 0), .ref (.lw q)] H Q := by
 refine aSk fun P => ?_
 refine aAt (fun k ρ H1 => k ≤ l.length ∧ (∃ u, ρ = [(oS "state", some (.ref (.lx 0))), (oS "signs", some (.ref (.lw q))), (oS "sign", u)]) ∧ LawH w H1 (n + 2 * k) r j (readS s (l.take k)) ∧ FrW w H H1) ?_
 refine aBf ?_
 nofun
 refine ⟨_, _, rfl, hq, ⟨Nat.zero_le _, ⟨_, rfl⟩, S, FrW.refl⟩, fun k ρ H1 q1 => q1.2.2.2.lw hq, ?_, ?_⟩
 ·rintro k _ H1 u zw0 hu
  obtain ⟨hk, ⟨u0, rfl⟩, S1, F1⟩ := zw0
  obtain ⟨x, rfl, hx⟩ := aC3 hu
  have hkl : k < l.length := (List.getElem?_eq_some_iff.mp hx).1
  refine ⟨_, aAv (by wtm_at "m.put"), ?_⟩
  nofun
  intro H2 S2 F2 _
  nofun
  ·rename_i e
   have e : x = sNul := of_decide_eq_true e
   intro H3 S3 F3 _
   nofun
   refine aAd ⟨hkl, ⟨_, rfl⟩, ?_, F1.trans (F2.trans F3)⟩
   rw [aG2 hx, read1, if_pos e, if_pos e]
   exact S3
  ·rename_i e
   have e : x ≠ sNul := of_decide_eq_false e
   intro H3 S3 F3 _
   nofun
   refine aAd ⟨hkl, ⟨_, rfl⟩, ?_, F1.trans (F2.trans F3)⟩
   rw [aG2 hx, read1, if_neg e, if_neg e]
   exact S3
 ·rintro _ H1 zw0
  obtain ⟨hk, ⟨u0, rfl⟩, S1, F1⟩ := zw0
  nofun
  have e : (strL l).length = l.length := by rw [strL, List.length_map]
  rw [e, List.take_of_length_le (Nat.le_refl _)] at S1
  exact aA1 (h _ S1 F1)
end
noncomputable def settleS (s : LS) : LS := if s.run.all blankC = true then { s with ts := s.run.foldl putT s.ts, run := [] } else { s with outs := s.run.foldl putT s.outs, es := s.es ++ s.run.map fun _ => eFos (oS "in table text"), run := [] }
theorem aHf {ts : List Tr} {x : Str} : (putT ts x).length ≤ ts.length + 1 := by
 by_cases h : ∃ us s, ts = us ++ [.lf sText s]
 ·obtain ⟨us, s, rfl⟩ := h
  rw [aBr]; simp
 ·rw [aCm fun us s q => h ⟨us, s, q⟩]; simp
theorem aKi {n : Nat} {ts : List Tr} {x : Str} (h : TxOk n ts) (hx : x.length ≤ 2) : TxOk (n + 1) (putT ts x) := by
 by_cases k : ∃ us s, ts = us ++ [.lf sText s]
 ·obtain ⟨us, s, rfl⟩ := k
  rw [aBr]
  intro a y q
  rcases List.mem_append.mp q with q | q
  ·have := h a y (List.mem_append_left _ q); exact zn [y.length, n] (.h 1 (.v 0) (.m 2 (.v 1)) .e) (.v 0) (.m 2 (.a (.v 1) (.n 1))) rfl this
  ·have q := List.mem_singleton.mp q
   injection q with q1 q2
   have := h _ _ (List.mem_append_right us (.head _))
   rw [q2, aKm]; exact zn [s.length, n, x.length] (.h 1 (.v 2) (.n 2) (.h 1 (.v 0) (.m 2 (.v 1)) .e)) (.a (.v 0) (.v 2)) (.m 2 (.a (.v 1) (.n 1))) rfl hx this
 ·rw [aCm fun us s q => k ⟨us, s, q⟩]
  exact (h.mono (Nat.le_succ _)).snoc fun a y q => by
   injection q with q1 q2
   rw [← q2]; omega
theorem aNy {x : Str} : [AV.str " ", .str "\n", .str "\t", .str "\r", .str "\x0c"].any (isStr x) = blankC x := by
 simp only [blankC, List.any_cons, List.any_nil, Bool.or_false]
 cases isStr x (.str " ") <;> cases isStr x (.str "\n") <;> cases isStr x (.str "\t") <;> cases isStr x (.str "\r") <;> cases isStr x (.str "\x0c") <;> rfl
theorem aCg {i : Id} {c e : Cell} : upd (upd H i c) i e = upd H i e := by
 funext q
 unfold upd
 split <;> rfl
theorem aGe {fc : FC} {e : Expr} {ρ : Loc} (hp : fc.scope.names.lookup ("__debug__" : Str) = none) (h : Plain fc → Ev Γ fc d e ρ H Q) : Ev Γ fc d e ρ H Q := h ⟨hp⟩
section
variable {w : Id} {n r j : Nat} {s : LS}
theorem aIa (S : LawH w H n r j s) (ok : okSigns s.run) (hz : n ≤ 80000)
  (h : ∀ H', LawH w H' (n + 40) (j + 1) (j + 1) (settleS s) → FrW w H H' → Q .none H') : Cd Γ 6 (.ref 790) [.ref (.lx 0), .ref w] H Q := by
 have l16 := ok.1
 have lx : ∀ (i : Nat) x, s.run[i]? = some x → x.length ≤ 2 ∧ x ≠ sNul ∧ i < s.run.length := fun i x hx => ⟨(ok.2 x (List.mem_of_getElem? hx)).1, (ok.2 x (List.mem_of_getElem? hx)).2, (List.getElem?_eq_some_iff.mp hx).1⟩
 have rj := S.rj
 refine aSl fun P => ?_
 nofun
 refine aA6 (.lx (j + 1)) (aA7 ⟨rfl, S.fx _ (Nat.lt_succ_self _), ?_⟩)
 have S1 := S.tmpx (c := .live (.lst []))
 nofun
 refine aNr S1.1.d (es' := stF (j + 1) s.forms) (.rep (.there (.there .here))) (by simp [stF]) ?_
 have S2 := S1.1.setRun (q := j + 1) (l := []) (by exact ⟨(zn [r, j] (.h 1 (.n 10) (.v 0) (.h 1 (.v 0) (.v 1) .e)) (.n 10) (.a (.v 1) (.n 1)) rfl rj.1 rj.2), (zn [j] .e (.a (.v 0) (.n 1)) (.a (.v 0) (.n 1)) rfl)⟩) aA2 (by simp)
 have F2 := S1.2.trans S2.2
 have r2 : upd (upd H (.lx (j + 1)) (.live (.lst []))) (.lx 0) (.live (.dcs (stF (j + 1) s.forms))) (.lx r) = .live (.lst (strL s.run)) := aA0 (fun e => by injection e; omega) (aA0 (fun e => by injection e; exact oz63 rj ‹_›) S.run)
 generalize hH2 : upd (upd H (.lx (j + 1)) (.live (.lst []))) (.lx 0) (.live (.dcs (stF (j + 1) s.forms))) = H2 at S2 F2 r2 ⊢
 have S2 := S2.1
 nofun
 have f0 : H2 (.lw (n + 2)) = .free := S2.fr _ (Nat.le_refl _)
 refine aNc (x := oS "sign") (cap := []) (cl := fun _ => []) (.lw (n + 2)) (.lx r) (strL s.run) (fun k H1 => H1 = upd H2 (.lw (n + 2)) (.live (.lst (boolL ((s.run.take k).map blankC)))))
  ⟨fun L => ⋯, rfl, by decide +kernel, by decide +kernel, by decide +kernel, fun L n b hm => (nomatch hm), fun L => .nil, fun L y v hm => (nomatch hm), by simp⟩ ?_ ?_ ?_ ?_
 ·nofun
  exact ⟨rfl, r2, f0, rfl⟩
 ·rintro k _ rfl
  exact aA0 nofun r2
 ·rintro L k _ u rfl hu
  obtain ⟨x, rfl, hx⟩ := aC3 hu
  refine aGe ⋯ fun P2 => ?_
  nofun
  refine ⟨_, aA2, by rw [boolL, List.length_map, List.length_map, List.length_take]; omega, ?_⟩
  rw [aCg, List.take_add_one, hx, aNy]
  simp [boolL]
 ·rintro _ rfl
  have S3 := S2.tmp (c := .live (.lst (boolL ((s.run.take (strL s.run).length).map blankC))))
  have F3 := F2.trans S3.2
  have r3 : upd H2 (.lw (n + 2)) (.live (.lst (boolL ((s.run.take (strL s.run).length).map blankC)))) (.lx r) = .live (.lst (strL s.run)) := aA0 nofun r2
  have b3 : upd H2 (.lw (n + 2)) (.live (.lst (boolL ((s.run.take (strL s.run).length).map blankC)))) (.lw (n + 2)) = .live (.lst (boolL ((s.run.take (strL s.run).length).map blankC))) := aA2
  generalize upd H2 (.lw (n + 2)) (.live (.lst (boolL ((s.run.take (strL s.run).length).map blankC)))) = H3 at S3 F3 r3 b3 ⊢
  have S3 := S3.1
  have len : (strL s.run).length = s.run.length := by rw [strL, List.length_map]
  have eb : (((s.run.take (strL s.run).length).map blankC).all id) = s.run.all blankC := by
   rw [len, List.take_of_length_le (Nat.le_refl _), List.all_map]; rfl
  nofun
  refine aVm b3 ?_
  rw [eb]
  nofun
  ·rename_i hb
   refine aAt (fun k ρ H1 => k ≤ s.run.length ∧ (∃ u, ρ = [(oS "state", some (.ref (.lx 0))), (oS "within", some (.ref w)), (oS "run", some (.ref (.lx r))), (oS "sign", u)]) ∧ LawH w H1 (n + 3 + k) (j + 1) (j + 1) { s with ts := (s.run.take k).foldl putT s.ts, run := [] } ∧ FrW w H H1 ∧ H1 (.lx r) = .live (.lst (strL s.run))) ?_
   refine aBf ?_
   nofun
   refine ⟨_, _, rfl, r3, ⟨Nat.zero_le _, ⟨_, rfl⟩, S3, F3, r3⟩, fun k ρ H1 q1 => q1.2.2.2.2, ?_, ?_⟩
   ·rintro k _ H1 u zw0 hu
    refine hZ fun GZ kZ => ?_
    obtain ⟨hk, ⟨u0, rfl⟩, S4, F4, r4⟩ := zw0
    obtain ⟨x, rfl, hx⟩ := aC3 hu
    obtain ⟨x1, x2, x3⟩ := lx k x hx
    refine kZ ?_
    refine ⟨_, aAv (by wtm_at "m.put"), ?_⟩
    nofun
    refine hZ fun GZ kZ => ?_
    obtain ⟨vs, e1, l1⟩ := S4.ts
    refine kZ ?_
    refine aA4 (aI9 e1 l1 (by rw [l1.len]; have := S4.sz.2.2.2.2.2.1; exact oz100 hz l16 x3 this) (S4.tx.2.mono (by exact zn [k, s.run.length, n] (.h 1 (.v 2) (.n 80000) (.h 1 (.v 1) (.n 16) (.h 1 (.a (.v 0) (.n 1)) (.v 1) .e))) (.a (.a (.v 2) (.n 3)) (.v 0)) (.n 90000) rfl hz l16 x3)) x1 fun vs' l2 hv => ?_) rfl
    rw [putN, if_neg x2] at l2
    have S5 := S4.setTs l2 (by have := S4.sz.2.2.2.2.2.1; exact Nat.le_trans aHf (Nat.succ_le_succ this)) (aKi S4.tx.2 x1)
    have F5 := F4.trans S5.2
    have r5 : upd H1 w (.live (.lst vs')) (.lx r) = .live (.lst (strL s.run)) := aA0 (Ne.symm (S4.wne (by exact oz78 rj))) r4
    refine aAj (aAg (aAd ⟨x3, ⟨_, rfl⟩, ?_, F5, r5⟩))
    rw [aCk hx]
    exact S5.1
   ·rintro _ H1 zw0
    refine hZ fun GZ kZ => ?_
    obtain ⟨hk, ⟨u0, rfl⟩, S4, F4, r4⟩ := zw0
    refine kZ ?_
    nofun
    rw [len, List.take_of_length_le (Nat.le_refl _)] at S4
    refine aA3 (h _ ?_ F4)
    rw [settleS, if_pos hb]
    exact S4.mono (by exact zn [s.run.length, n] (.h 1 (.v 0) (.n 16) .e) (.a (.a (.v 1) (.n 3)) (.v 0)) (.a (.v 1) (.n 40)) rfl l16)
  ·rename_i hb
   refine aAt (fun k ρ H1 => k ≤ s.run.length ∧ (∃ u, ρ = [(oS "state", some (.ref (.lx 0))), (oS "within", some (.ref w)), (oS "run", some (.ref (.lx r))), (oS "sign", u)]) ∧ LawH w H1 (n + 3 + 2 * k) (j + 1) (j + 1) { s with outs := (s.run.take k).foldl putT s.outs, es := s.es ++ ((s.run.take k).map fun _ => eFos (oS "in table text")), run := [] } ∧ FrW w H H1 ∧ H1 (.lx r) = .live (.lst (strL s.run))) ?_
   refine aBf ?_
   nofun
   refine ⟨_, _, rfl, r3, ⟨Nat.zero_le _, ⟨_, rfl⟩, by rw [List.take_zero, List.map_nil, List.append_nil]; exact S3, F3, r3⟩, fun k ρ H1 q1 => q1.2.2.2.2, ?_, ?_⟩
   ·rintro k _ H1 u zw0 hu
    refine hZ fun GZ kZ => ?_
    obtain ⟨hk, ⟨u0, rfl⟩, S4, F4, r4⟩ := zw0
    obtain ⟨x, rfl, hx⟩ := aC3 hu
    obtain ⟨x1, x2, x3⟩ := lx k x hx
    refine kZ ?_
    refine ⟨_, aAv (by wtm_at "m.put"), ?_⟩
    nofun
    intro H4 S5 F5 k5
    have r5 : H4 (.lx r) = .live (.lst (strL s.run)) := (k5 _ (fun e => by injection e; omega)).trans r4
    nofun
    obtain ⟨vs, e1, l1⟩ := S5.outs
    refine aA4 (aI9 e1 l1 (by rw [l1.len]; have := S5.sz.2.2.2.1; exact oz104 hz l16 x3 this) (S5.tx.1.mono (by exact zn [k, s.run.length, n] (.h 1 (.v 2) (.n 80000) (.h 2 (.v 1) (.n 16) (.h 2 (.a (.v 0) (.n 1)) (.v 1) .e))) (.a (.a (.a (.v 2) (.n 3)) (.m 2 (.v 0))) (.n 1)) (.n 90000) rfl hz l16 x3)) x1 fun vs' l2 hv => ?_) rfl
    rw [putN, if_neg x2] at l2
    have S6 := S5.setOuts l2 (by have := S5.sz.2.2.2.1; exact Nat.le_trans aHf (Nat.succ_le_succ this)) (aKi S5.tx.1 x1)
    have r6 : upd H4 (.lx 4) (.live (.lst vs')) (.lx r) = .live (.lst (strL s.run)) := aA0 (fun e => by injection e; omega) r5
    refine aAj (aAg (aAd ⟨x3, ⟨_, rfl⟩, ?_, F4.trans (F5.trans S6.2), r6⟩))
    rw [aCk hx, aE1 hx, ← List.append_assoc]
    exact S6.1
   ·rintro _ H1 zw0
    refine hZ fun GZ kZ => ?_
    obtain ⟨hk, ⟨u0, rfl⟩, S4, F4, r4⟩ := zw0
    refine kZ ?_
    nofun
    rw [len, List.take_of_length_le (Nat.le_refl _)] at S4
    refine aA1 (h _ ?_ F4)
    rw [settleS, if_neg (by rw [hb]; decide)]
    exact S4.mono (by omega)
end
inductive KK
 | inn
 | out
 | drop (k : Nat)
noncomputable def KK.at (w : Id) : KK → Id
 | .inn => w
 | .out => .lx 4
 | .drop k => .lx k
noncomputable def KK.add (s : LS) (t : Tr) : KK → LS
 | .inn => { s with ts := s.ts ++ [t] }
 | .out => { s with outs := s.outs ++ [t] }
 | .drop _ => s
def KK.ok (r j : Nat) : KK → Prop
 | .drop k => 10 ≤ k ∧ k ≤ j ∧ k ≠ r
 | _ => True
noncomputable abbrev nS (k : Nat) : Str := oS (toString (k : Int))
noncomputable def pairsS (s : LS) (at_ : List (Str × Str)) : List (Str × Str) := (oS "at", nS s.toks.length) :: at_
noncomputable abbrev startTok (nm : Str) (at_ : List (Str × Str)) (cl : Bool) : AV := .tup [.str "start", .str nm, .tup (pairL at_), .bool cl]
noncomputable def startS (s : LS) (kk : KK) (nm : Str) (at_ : List (Str × Str)) (cl : Bool) : LS :=
 let p := pairsS s at_
 let s2 := kk.add { s with toks := s.toks ++ [startTok nm p cl] } (.el nm p [])
 if nm = sInput ∧ 0 < s.forms then { s2 with ow := s2.ow ++ [p] } else s2
noncomputable def startH (H : AH) (n : Nat) (kid : Id) (vs : List AV) (s : LS) (nm : Str) (at_ : List (Str × Str)) (cl : Bool) : AH :=
 upd (upd (upd (upd (upd (upd H (.lw n) (.live (.lst [.tup [.str "at", .str (nS s.toks.length)]]))) (.lw (n + 1)) (.live (.lst (pairL (pairsS s at_))))) (.lx 1) (.live (.lst (s.toks ++ [startTok nm (pairsS s at_) cl]))))
  (.lw (n + 3)) (.live (.lst []))) (.lw (n + 4)) (.live (.lst [.str nm, .ref (.lw (n + 1)), .ref (.lw (n + 3))]))) kid (.live (.lst (vs ++ [.ref (.lw (n + 4))])))
section
variable {w : Id} {n r j : Nat} {s : LS}
theorem KK.add_forms {t : Tr} {kk : KK} : (kk.add s t).forms = s.forms := by cases kk <;> rfl
theorem LawH.kne (S : LawH w H n r j s) {kk : KK} (ok : kk.ok r j) : (∀ k, kk.at w ≠ .lw k) ∧ kk.at w ≠ .lx 0 ∧ kk.at w ≠ .lx 1 ∧ kk.at w ≠ .lx 2 ∧ kk.at w ≠ .lx 5 := by
 cases kk with
 | inn => exact ⟨fun k => S.wlw, S.wne (by omega), S.wne (by omega), S.wne (by omega), S.wne (by omega)⟩
 | out => exact ⟨fun k e => (nomatch e), show (Id.lx 4) ≠ .lx 0 by decide, show (Id.lx 4) ≠ .lx 1 by decide, show (Id.lx 4) ≠ .lx 2 by decide, show (Id.lx 4) ≠ .lx 5 by decide⟩
 | drop k =>
  have : 10 ≤ k := ok.1
  exact ⟨fun k e => (nomatch e), fun e => by injection e; omega, fun e => by injection e; omega, fun e => by injection e; omega, fun e => by injection e; omega⟩
theorem LawH.kkAdd {kk : KK} {vs : List AV} {v : AV} {t : Tr} (S : LawH w H n r j s) (ok : kk.ok r j) (hk : H (kk.at w) = .live (.lst vs)) (hv : LyT U0 H v t) (ht : ∀ a x, t = .lf a x → x.length ≤ 2 * (n + 1)) :
  LawH w (upd H (kk.at w) (.live (.lst (vs ++ [v])))) (n + 1) r j (kk.add s t) ∧ FrW w H (upd H (kk.at w) (.live (.lst (vs ++ [v])))) := by
 cases kk with
 | inn =>
  refine hZ fun GZ kZ => ?_
  obtain ⟨vs0, e, l⟩ := S.ts
  have hk : H w = .live (.lst vs) := hk
  rwa [hk] at e
  refine kZ ?_
  exact S.setTs (l.snoc (hv.keep (fun _ q => .inl q) fun _ _ _ => rfl)) (by rw [List.length_append]; exact Nat.succ_le_succ S.sz.2.2.2.2.2.1) ((S.tx.2.mono (Nat.le_succ _)).snoc ht)
 | out =>
  refine hZ fun GZ kZ => ?_
  obtain ⟨vs0, e, l⟩ := S.outs
  have hk : H (.lx 4) = .live (.lst vs) := hk
  rwa [hk] at e
  refine kZ ?_
  exact S.setOuts (l.snoc hv) (by rw [List.length_append]; exact Nat.succ_le_succ S.sz.2.2.2.1) ((S.tx.1.mono (Nat.le_succ _)).snoc ht)
 | drop k => exact S.loc ok
structure StartF (w : Id) (H H6 : AH) (n : Nat) (kid : Id) (vs : List AV) (s : LS) (nm : Str) (at_ : List (Str × Str)) (cl : Bool) : Prop where
 p : H6 (.lw (n + 1)) = .live (.lst (pairL (pairsS s at_)))
 c : H6 (.lw (n + 3)) = .live (.lst [])
 e : H6 (.lw (n + 4)) = .live (.lst [.str nm, .ref (.lw (n + 1)), .ref (.lw (n + 3))])
 k : H6 kid = .live (.lst (vs ++ [.ref (.lw (n + 4))]))
 t : H6 (.lx 1) = .live (.lst (s.toks ++ [startTok nm (pairsS s at_) cl]))
 o : ∀ i, i ≠ .lw n → i ≠ .lw (n + 1) → i ≠ .lw (n + 3) → i ≠ .lw (n + 4) → i ≠ .lx 1 → i ≠ kid → H6 i = H i
theorem aAc {a b : Nat} (h : a ≠ b) : Id.lw a ≠ .lw b := fun e => by injection e; omega
theorem aBx {a b : Nat} (h : a ≠ b) : Id.lx a ≠ .lx b := fun e => by injection e; omega
theorem startF {kid : Id} {vs : List AV} {nm : Str} {at_ : List (Str × Str)} {cl : Bool} (k1 : ∀ k, kid ≠ .lw k) (k2 : kid ≠ .lx 1) : StartF w H (startH H n kid vs s nm at_ cl) n kid vs s nm at_ cl := by
 refine ⟨?_, ?_, ?_, aA2, ?_, fun i a b c d e f => ?_⟩
 ·exact aA0 (Ne.symm (k1 _)) (aA0 (aAc (by omega)) (aA0 (aAc (by omega)) (aA0 nofun aA2)))
 ·exact aA0 (Ne.symm (k1 _)) (aA0 (aAc (by omega)) aA2)
 ·exact aA0 (Ne.symm (k1 _)) aA2
 ·exact aA0 (Ne.symm k2) (aA0 nofun (aA0 nofun aA2))
 ·exact aA0 f (aA0 d (aA0 c (aA0 e (aA0 b (aA0 a rfl)))))
theorem LawH.start {kk : KK} {vs : List AV} {nm : Str} {at_ : List (Str × Str)} {cl : Bool} (S : LawH w H n r j s) (ok : kk.ok r j) (hk : H (kk.at w) = .live (.lst vs)) (hn : nm ≠ sText) :
  LawH w (startH H n (kk.at w) vs s nm at_ cl) (n + 8) r j (kk.add { s with toks := s.toks ++ [startTok nm (pairsS s at_) cl] } (.el nm (pairsS s at_) [])) ∧ FrW w H (startH H n (kk.at w) vs s nm at_ cl) := by
 obtain ⟨k1, k2, k3, k4, k5⟩ := S.kne ok
 have S1 := S.tmp (c := .live (.lst [.tup [.str "at", .str (nS s.toks.length)]]))
 have S2 := S1.1.tmp (c := .live (.lst (pairL (pairsS s at_))))
 have S3 := (S2.1.addTok (v := startTok nm (pairsS s at_) cl))
 have S4 := S3.1.tmp (c := .live (.lst []))
 have S5 := S4.1.tmp (c := .live (.lst [.str nm, .ref (.lw (n + 1)), .ref (.lw (n + 3))]))
 have F5 := S1.2.trans (S2.2.trans (S3.2.trans (S4.2.trans S5.2)))
 have F : StartF w H (startH H n (kk.at w) vs s nm at_ cl) n (kk.at w) vs s nm at_ cl := startF k1 k3
 have S6 := S5.1.kkAdd (kk := kk) (vs := vs) (v := .ref (.lw (n + 4))) (t := .el nm (pairsS s at_) []) ok (by
  refine aA0 (k1 _) (aA0 (k1 _) (aA0 k3 (aA0 (k1 _) (aA0 (k1 _) hk))))) (.el ⟨_, rfl⟩ ⟨n + 1, rfl⟩ ⟨n + 3, rfl⟩ hn aA2 (aA0 (aAc (by omega)) (aA0 (aAc (by omega)) (aA0 nofun aA2))) (aA0 (aAc (by omega)) aA2) .nil) (fun a x e => nomatch e)
 exact ⟨S6.1.mono (by omega), F5.trans S6.2⟩
section
 local macro_rules | `(tactic| wtm_at "m.cl") => pure (zG `z "aA5/t/o")
theorem aId {kk : KK} {q : Nat} {nm : Str} {at_ : List (Str × Str)} {cl : Bool} {vs : List AV} (S : LawH w H n r j s) (ok : kk.ok r j) (hk : H (kk.at w) = .live (.lst vs)) (hv : vs.length ≤ 100000) (hq : H (.lw q) = .live (.lst (pairL at_))) (ha : at_.length ≤ 10) (hz : n ≤ 80000) (hnm : nm ≠ sText)
  (h0 : ¬ (nm = sInput ∧ 0 < s.forms) → Q .none (startH H n (kk.at w) vs s nm at_ cl))
  (h1 : nm = sInput ∧ 0 < s.forms → ∀ os, H (.lx 5) = .live (.lst os) → Q .none (upd (startH H n (kk.at w) vs s nm at_ cl) (.lx 5) (.live (.lst (os ++ [.tup [.str "input", .ref (.lw (n + 1)), .str "form"]]))))) :
  Cd Γ 3 (.ref 797) [.ref (.lx 0), .str nm, .ref (.lw q), .ref (kk.at w), .bool cl] H Q := by
 obtain ⟨k1, k2, k3, k4, k5⟩ := S.kne ok
 have hqn : q < n := by
  rcases Nat.lt_or_ge q n with e | e
  ·exact e
  ·have := S.fr q e
   rwa [hq] at this
 have htl : s.toks.length ≤ n := S.sz.1
 have S1 := (S.tmp (c := .live (.lst [.tup [.str "at", .str (nS s.toks.length)]]))).1
 have q1 : upd H (.lw n) (.live (.lst [.tup [.str "at", .str (nS s.toks.length)]])) (.lw q) = .live (.lst (pairL at_)) := aA0 (aAc (by exact oz105 hqn)) hq
 have S2 := (S1.tmp (c := .live (.lst (pairL (pairsS s at_))))).1
 have S3 := (S2.addTok (v := startTok nm (pairsS s at_) cl)).1
 have h3 : upd (upd (upd H (.lw n) (.live (.lst [.tup [.str "at", .str (nS s.toks.length)]]))) (.lw (n + 1)) (.live (.lst (pairL (pairsS s at_))))) (.lx 1) (.live (.lst (s.toks ++ [startTok nm (pairsS s at_) cl]))) (kk.at w) = .live (.lst vs) := aA0 k3 (aA0 (k1 _) (aA0 (k1 _) hk))
 refine aSm fun P => ?_
 nofun
 refine aA6 (.lw n) (aAi ?_)
 nofun
 refine aHo S.toks (by omega) ?_
 nofun
 refine aE7 (by exact (zn [n, s.toks.length] (.h 1 (.v 0) (.n 80000) (.h 1 (.v 1) (.v 0) .e)) (.a (.v 1) (.n 1)) (.n (2^64)) rfl hz htl : s.toks.length < 2^64)) ?_
 rw [show oS (toString (s.toks.length : Int)) = nS s.toks.length from rfl]
 nofun
 refine ⟨S.fr _ (Nat.le_refl _), ?_⟩
 nofun
 refine aSz (.lw (n + 1)) aA2 q1 (S1.fr _ (Nat.le_refl _)) (by simp [pairL]; exact zn [at_.length] (.h 1 (.v 0) (.n 10) .e) (.a (.n 1) (.v 0)) (.n 1000000) rfl ha) ?_
 rw [show [AV.tup [.str "at", .str (nS s.toks.length)]] ++ pairL at_ = pairL (pairsS s at_) from rfl]
 nofun
 refine aMz aA2 (by simp [pairL, pairsS]; omega) ?_
 nofun
 refine aA6 (.lw (n + 4)) (aAi ?_)
 nofun
 refine aA6 (.lw (n + 3)) (aA7 ⟨rfl, S3.fr _ (Nat.le_refl _), ?_⟩)
 nofun
 refine ⟨(S3.tmp (c := .live (.lst []))).1.fr _ (Nat.le_refl _), ?_⟩
 nofun
 refine aA5 (aA0 (k1 _) (aA0 (k1 _) h3)) (by omega) ?_
 have S6 := (S.start (kk := kk) (cl := cl) (at_ := at_) (nm := nm) ok hk hnm).1
 change DropV .none (Exs _ _ _ _ _ (startH H n (kk.at w) vs s nm at_ cl) _)
 nofun
 ·rename_i e1 e2
  have e1 : nm = sInput := of_decide_eq_true e1
  have e2 : 0 < s.forms := by
   have := of_decide_eq_true e2
   rw [KK.add_forms] at this
   have : (0 : Int) < (s.forms : Int) := this
   exact zco (zi [s.forms] [] (.h 1 (.a (.n 0) (.n 1)) (.u 0) .e) (.c (.a (.n 0) (.n 1))) (.u 0) rfl this)
  obtain ⟨os, o1, o2⟩ := S.ow
  have F : StartF w H (startH H n (kk.at w) vs s nm at_ cl) n (kk.at w) vs s nm at_ cl := startF k1 k3
  have o3 := (F.o (.lx 5) nofun nofun nofun nofun (by decide) (Ne.symm k5)).trans o1
  refine aA5 o3 (by rw [o2.len]; have := S.sz.2.2.2.2.1; omega) (aAj (aAg (aA9 (aAg (aA1 (h1 ⟨e1, e2⟩ os o1))))))
 ·rename_i e2
  refine aA1 (h0 fun q => ?_)
  have := of_decide_eq_false e2
  rw [KK.add_forms] at this
  exact this (show (0 : Int) < (s.forms : Int) by exact oz109 q)
 ·rename_i e1
  exact aA1 (h0 fun q => of_decide_eq_false e1 q.1)
theorem aD5 {kk : KK} {q : Nat} {nm : Str} {at_ : List (Str × Str)} {cl : Bool} (S : LawH w H n r j s) (ok : kk.ok r j) (hk : ∃ vs, H (kk.at w) = .live (.lst vs) ∧ vs.length ≤ 100000) (hq : H (.lw q) = .live (.lst (pairL at_))) (ha : at_.length ≤ 10) (hz : n ≤ 80000) (hnm : nm ≠ sText)
  (h : ∀ H', LawH w H' (n + 10) r j (startS s kk nm at_ cl) → FrW w H H' → Q .none H') : Cd Γ 3 (.ref 797) [.ref (.lx 0), .str nm, .ref (.lw q), .ref (kk.at w), .bool cl] H Q := by
 refine hZ fun GZ kZ => ?_
 obtain ⟨vs, hk, hv⟩ := hk
 obtain ⟨S6, F6⟩ := S.start (kk := kk) (cl := cl) (at_ := at_) (nm := nm) ok hk hnm
 obtain ⟨k1, k2, k3, k4, k5⟩ := S.kne ok
 have F : StartF w H (startH H n (kk.at w) vs s nm at_ cl) n (kk.at w) vs s nm at_ cl := startF k1 k3
 refine kZ ?_
 refine aId S ok hk hv hq ha hz hnm (fun e => ?_) fun e os ho => ?_
 ·refine h _ ?_ F6
  rw [startS, if_neg e]
  exact S6.mono (by omega)
 ·refine hZ fun GZ kZ => ?_
  obtain ⟨os', o1, o2⟩ := S6.ow
  have o3 := (F.o (.lx 5) nofun nofun nofun nofun (by decide) (Ne.symm k5)).trans ho
  rwa [o3] at o1
  have S7 := S6.addOw (o2.snoc F.p) (by rw [List.length_append]; exact Nat.succ_le_succ S6.sz.2.2.2.2.1)
  refine kZ ?_
  refine h _ ?_ (F6.trans S7.2)
  rw [startS, if_pos e]
  exact S7.1.mono (by omega)
end
end
inductive Thing
 | comment (x : Str)
 | hidden (x : Str)
 | form (cl : Bool)
 | head (nm : Str)
 | endT
 | endErr (nm : Str)
 | doctype
 | input (at_ : List (Str × Str))
 | br
 | endP
 | b (l : List Str)
noncomputable abbrev endTok (nm : Str) : AV := .tup [.str "end", .str nm, .tup [], .bool false]
noncomputable def bTree (s : LS) (l : List Str) : Tr := .el sB (pairsS s []) (l.foldl putN [])
noncomputable def thingS (M : Str) (s : LS) : Thing → LS
 | .comment x => { s with toks := s.toks ++ [.tup [.str "comment", .str x]], ts := s.ts ++ [.lf sComment x] }
 | .hidden x => startS { s with es := s.es ++ [eTag M] } .inn sInput [(oS "type", x)] true
 | .form cl =>
  let s1 := startS { s with es := s.es ++ [eTag M] } (if s.forms = 0 then .inn else .drop 0) (oS "form") [] cl
  { s1 with forms := s1.forms + 1, es := if cl = true then s1.es ++ [eSol M] else s1.es }
 | .head nm => startS s .inn nm [] false
 | .endT => { s with toks := s.toks ++ [endTok (oS "template")], es := s.es ++ [(oS "told to the head's rule", M)] }
 | .endErr nm => { s with toks := s.toks ++ [endTok nm], es := s.es ++ [(oS "unexpected-end-tag", M)] }
 | .doctype => { s with toks := s.toks ++ [.tup [.str "doctype", .str "html", .none, .none, .bool false]], es := s.es ++ [(oS "unexpected-doctype", M)] }
 | .input at_ => startS { s with es := s.es ++ [eFos M] } .out sInput at_ true
 | .br => startS { s with es := s.es ++ [eFos M] } .out (oS "br") [] true
 | .endP => { s with toks := s.toks ++ [endTok (oS "p")], es := s.es ++ [eFos M] }
 | .b l => { s with toks := s.toks ++ [startTok sB (pairsS s []) false] ++ l.map chTok ++ [endTok sB], es := s.es ++ [eFos M] ++ (l.map fun _ => eFos M) ++ [eFos M], outs := s.outs ++ [bTree s l] }
noncomputable def pickL (l : List Str) (k : Int) : Str := (l[k.toNat]?).getD (oS "")
theorem aBq {l : List Str} {k : Int} (h0 : 0 ≤ k) (h1 : k < l.length) : pickL l k ∈ l := by
 have h : k.toNat < l.length := by omega
 rw [pickL, List.getElem?_eq_getElem h]
 exact List.getElem_mem h
theorem aJi {l : List Str} {k : Int} (h0 : 0 ≤ k) (h1 : k < l.length) (hz : l.length ≤ 100) (h : Q (.str (pickL l k)) H) : Sb Γ d (.tup (strL l)) (.int k) H Q := by
 have hk : k.toNat < l.length := by omega
 refine aHw (n := k.toNat) (by omega) (v := .str (pickL l k)) ?_ (by exact zn [(Int.toNat k), l.length] (.h 1 (.v 1) (.n 100) (.h 1 (.a (.v 0) (.n 1)) (.v 1) .e)) (.v 0) (.n 1000000) rfl hz hk) h
 rw [strL, List.getElem?_map, List.getElem?_eq_getElem hk, pickL, List.getElem?_eq_getElem hk]; rfl
noncomputable abbrev typesL : List Str := [oS "hidden", oS "HIDDEN", oS "hIdDen"]
noncomputable abbrev headsL : List Str := [oS "style", oS "script", oS "template"]
noncomputable abbrev endsL : List Str := [oS "body", oS "caption", oS "col", oS "colgroup", oS "html", oS "td", oS "tfoot", oS "th", oS "thead"]
noncomputable def cmS (rest : Int) : Str := oS (toString (rest.fmod 100))
noncomputable def takenT (sort rest : Int) : Thing :=
 if sort = 1 then .comment (cmS rest) else if sort = 2 then .hidden (pickL typesL (rest.fmod 3)) else if sort = 3 then .form (decide (rest.fmod 2 = 1)) else if sort = 4 then .head (pickL headsL (rest.fmod 3))
 else if sort = 5 then .endT else if sort = 6 then .endErr (pickL endsL (rest.fmod 9)) else .doctype
theorem fmodR (r k : Int) (hk : 0 < k) : 0 ≤ r.fmod k ∧ r.fmod k < k := ⟨Int.fmod_nonneg_of_pos _ hk, Int.fmod_lt_of_pos _ hk⟩
section
variable {w : Id} {n r j : Nat} {s : LS} {M : Str}
theorem aB6 {sort rest : Int} (S : LawH w H n r j s)
  (h : Plain fc_804 → Exs Γ fc_804 5 (List.drop 1 (bodyS (stAt 72))) [(oS "state", some (.ref (.lx 0))), (oS "sort", some (.int sort)), (oS "rest", some (.int rest)), (oS "mode", some (.str M)), (oS "within", some (.ref w)),
   (oS "tokens", some (.ref (.lx 1))), (oS "errors", some (.ref (.lx 2))), (oS "names", none)] H (RetQ Q)) : Cd Γ 6 (.ref 804) [.ref (.lx 0), .int sort, .int rest, .str M, .ref w] H Q := by
 refine aSn fun P => ?_
 refine aAq (aFm (names := [oS "tokens", oS "errors"]) ?_)
 nofun
 refine ⟨_, _, rfl, .cons (by wtm_at "m.put") (.cons (by wtm_at "m.put") .nil), ?_⟩
 exact h P
end
section
variable {w : Id} {n r j : Nat} {s : LS} {M : Str}
theorem aTm {v : AV} {t : Tr} (S : LawH w H n r j s) (hn : n ≤ 90000) (hv : LyT U0 H v t) (ht : ∀ a x, t = .lf a x → x.length ≤ 2) (h : ∀ H', LawH w H' (n + 1) r j { s with ts := s.ts ++ [t] } → FrW w H H' → Q .none H') : Cl Γ d (.builtin "list.append") [.ref w, v] H Q := by
 obtain ⟨vs, e, l⟩ := S.ts
 have k := S.kkAdd (kk := .inn) trivial e hv fun a x q => by have := ht a x q; omega
 exact aA5 e (by rw [l.len]; have := S.sz.2.2.2.2.2.1; omega) (h _ k.1 k.2)
theorem LawH.inn (S : LawH w H n r j s) (hn : n ≤ 90000) : ∃ vs, H (KK.inn.at w) = .live (.lst vs) ∧ vs.length ≤ 100000 := by
 obtain ⟨vs, e, l⟩ := S.ts
 exact ⟨vs, e, by rw [l.len]; have := S.sz.2.2.2.2.2.1; omega⟩
theorem LawH.outk (S : LawH w H n r j s) (hn : n ≤ 90000) : ∃ vs, H (KK.out.at w) = .live (.lst vs) ∧ vs.length ≤ 100000 := by
 obtain ⟨vs, e, l⟩ := S.outs
 exact ⟨vs, e, by rw [l.len]; have := S.sz.2.2.2.1; omega⟩
theorem aT6 {rest : Int} : (cmS rest).length ≤ 2 := by
 have h := fmodR rest 100 (by decide)
 have k : ∀ i : Fin 100, (oS (toString ((i.val : Nat) : Int))).length ≤ 2 := by decide +kernel
 have := k ⟨(rest.fmod 100).toNat, by exact oz111 h⟩
 have e : (((rest.fmod 100).toNat : Nat) : Int) = rest.fmod 100 := by exact oz112 h
 rw [cmS, ← e]; exact this
theorem aO9 {rest : Int} (S : LawH w H n r j s) (hz : n ≤ 70000) (h : ∀ H' j', j' ≤ j + 1 → LawH w H' (n + 20) r j' (thingS M s (takenT 1 rest)) → FrW w H H' → Q .none H') : Cd Γ 6 (.ref 804) [.ref (.lx 0), .int 1, .int rest, .str M, .ref w] H Q := by
 refine aB6 S fun P => ?_
 have f := fmodR rest 100 (by decide)
 nofun
 refine aE7 (by exact oz113 f) ?_
 nofun
 intro H1 S1 F1 _
 nofun
 refine aE7 (by exact oz113 f) ?_
 nofun
 refine aTm S1 (by omega) .lf (fun a x q => by injection q with _ q; rw [← q]; exact aT6) fun H2 S2 F2 => ?_
 nofun
 exact aA1 (h _ j (by omega) (S2.mono (by omega)) (F1.trans F2))
theorem aOa {rest : Int} (S : LawH w H n r j s) (hz : n ≤ 70000) (h : ∀ H' j', j' ≤ j + 1 → LawH w H' (n + 20) r j' (thingS M s (takenT 2 rest)) → FrW w H H' → Q .none H') : Cd Γ 6 (.ref 804) [.ref (.lx 0), .int 2, .int rest, .str M, .ref w] H Q := by
 refine aB6 S fun P => ?_
 have f := fmodR rest 3 (by decide)
 nofun
 intro H1 S1 F1 _
 nofun
 refine aA6 (.lw (n + 1)) (aAi ?_)
 nofun
 refine aJi (l := typesL) f.1 f.2 (by decide) ?_
 nofun
 refine ⟨S1.fr _ (Nat.le_refl _), ?_⟩
 nofun
 have S2 := S1.tmp (c := .live (.lst [.tup [.str "type", .str (pickL typesL (rest.fmod 3))]]))
 refine aA4 (aD5 (kk := .inn) (q := n + 1) (at_ := [(oS "type", pickL typesL (rest.fmod 3))]) S2.1 trivial (S2.1.inn (by omega)) aA2 (by simp) (by omega) (by decide +kernel) fun H3 S3 F3 => ?_) rfl
 nofun
 exact aA1 (h _ j (by omega) (S3.mono (by omega)) (F1.trans (S2.2.trans F3)))
theorem aP9 {cl : Bool} (e : cl = false) : thingS M s (.form cl) = { startS { s with es := s.es ++ [eTag M] } (if s.forms = 0 then .inn else .drop 0) (oS "form") [] cl with forms := (startS { s with es := s.es ++ [eTag M] } (if s.forms = 0 then .inn else .drop 0) (oS "form") [] cl).forms + 1 } := by
 subst e; rfl
theorem aOb {rest : Int} (S : LawH w H n r j s) (hz : n ≤ 70000) (h : ∀ H' j', j' ≤ j + 1 → LawH w H' (n + 20) r j' (thingS M s (takenT 3 rest)) → FrW w H H' → Q .none H') : Cd Γ 6 (.ref 804) [.ref (.lx 0), .int 3, .int rest, .str M, .ref w] H Q := by
 refine aB6 S fun P => ?_
 have rj := S.rj
 nofun
 intro H1 S1 F1 _
 nofun
 refine aA6 (.lw (n + 1)) (aA7 ⟨rfl, S1.fr _ (Nat.le_refl _), ?_⟩)
 have S2 := S1.tmp (c := .live (.lst []))
 have a2 : upd H1 (.lw (n + 1)) (.live (.lst [])) (.lw (n + 1)) = .live (.lst []) := aA2
 have F2 := F1.trans S2.2
 generalize upd H1 (.lw (n + 1)) (.live (.lst [])) = H2 at S2 a2 F2 ⊢
 have S2 := S2.1
 refine aAi (Ev.mono (Q := fun v H' => ∃ kk j', j' ≤ j + 1 ∧ v = .ref (KK.at w kk) ∧ kk.ok r j' ∧ LawH w H' (n + 4) r j' { s with es := s.es ++ [eTag M] } ∧ (∃ vs, H' (kk.at w) = .live (.lst vs) ∧ vs.length ≤ 100000) ∧ FrW w H H' ∧ H' (.lw (n + 1)) = .live (.lst []) ∧
  (∀ nm at_ cl, startS { s with es := s.es ++ [eTag M] } kk nm at_ cl = startS { s with es := s.es ++ [eTag M] } (if s.forms = 0 then .inn else .drop 0) nm at_ cl)) (aGd ?_) ?_)
 ·nofun
  ·rename_i e
   have e : (s.forms : Int) = 0 := of_decide_eq_true e
   exact ⟨.inn, j, by omega, rfl, trivial, S2.mono (by omega), S2.inn (by omega), F2, a2, fun nm at_ cl => by rw [if_pos (by omega)]⟩
  ·rename_i e
   have e : ¬ (s.forms : Int) = 0 := of_decide_eq_false e
   have S3 := S2.tmpx (c := .live (.lst []))
   refine aA6 (.lx (j + 1)) (aA7 ⟨rfl, S2.fx _ (Nat.lt_succ_self _), ?_⟩)
   exact ⟨.drop (j + 1), j + 1, by omega, rfl, ⟨by exact oz114 rj, by omega, by exact oz115 rj⟩, S3.1.mono (by omega), ⟨[], aA2, by simp⟩, F2.trans S3.2, aA0 nofun a2, fun nm at_ cl => by rw [if_neg (by exact oz116 e)]; rfl⟩
 ·rintro v H3 zw0
  obtain ⟨kk, j', hj, rfl, ok, S3, hk, F3, a3, hs⟩ := zw0
  nofun
  refine aA4 (aD5 (kk := kk) (q := n + 1) (at_ := []) S3 ok hk a3 (by simp) (by omega) (by decide +kernel) fun H4 S4 F4 => ?_) rfl
  rw [hs] at S4
  nofun
  refine aNr S4.d (es' := stF r ((startS { s with es := s.es ++ [eTag M] } (if s.forms = 0 then .inn else .drop 0) (oS "form") [] (decide (rest.fmod 2 = 1))).forms + 1)) (.rep (.there (.there (.there (.there (.there .here)))))) (by simp [stF]) ?_
  have S5 := S4.setForms
  have F5 := F3.trans (F4.trans S5.2)
  generalize upd H4 (.lx 0) _ = H5 at S5 F5 ⊢
  have S5 := S5.1
  nofun
  ·rename_i e
   intro H6 S6 F6 _
   nofun
   refine aA1 (h _ j' hj ?_ (F5.trans F6))
   have := S6.mono (n' := n + 20) (by omega)
   rw [show takenT 3 rest = .form (decide (rest.fmod 2 = 1)) from rfl, thingS, if_pos e]
   exact this
  ·rename_i e
   refine aA1 (h _ j' hj ?_ F5)
   have := S5.mono (n' := n + 20) (by omega)
   rw [show takenT 3 rest = .form (decide (rest.fmod 2 = 1)) from rfl, aP9 e]
   exact this
theorem aOc {rest : Int} (S : LawH w H n r j s) (hz : n ≤ 70000) (h : ∀ H' j', j' ≤ j + 1 → LawH w H' (n + 20) r j' (thingS M s (takenT 4 rest)) → FrW w H H' → Q .none H') : Cd Γ 6 (.ref 804) [.ref (.lx 0), .int 4, .int rest, .str M, .ref w] H Q := by
 refine aB6 S fun P => ?_
 have f := fmodR rest 3 (by decide)
 have nt : pickL headsL (rest.fmod 3) ≠ sText := by
  have := aBq (l := headsL) f.1 f.2
  intro e
  rw [e] at this
  revert this
  decide +kernel
 nofun
 refine aJi (l := headsL) f.1 f.2 (by decide) ?_
 nofun
 refine aA6 (.lw n) (aA7 ⟨rfl, S.fr _ (Nat.le_refl _), ?_⟩)
 have S2 := S.tmp (c := .live (.lst []))
 nofun
 refine aA4 (aD5 (kk := .inn) (q := n) (at_ := []) S2.1 trivial (S2.1.inn (by omega)) aA2 (by simp) (by omega) nt fun H3 S3 F3 => ?_) rfl
 nofun
 exact aA1 (h _ j (by omega) (S3.mono (by omega)) (S2.2.trans F3))
theorem aOd {rest : Int} (S : LawH w H n r j s) (hz : n ≤ 70000) (h : ∀ H' j', j' ≤ j + 1 → LawH w H' (n + 20) r j' (thingS M s (takenT 5 rest)) → FrW w H H' → Q .none H') : Cd Γ 6 (.ref 804) [.ref (.lx 0), .int 5, .int rest, .str M, .ref w] H Q := by
 refine aB6 S fun P => ?_
 nofun
 intro H1 S1 F1 _
 nofun
 intro H2 S2 F2 _
 nofun
 exact aA1 (h _ j (by omega) (S2.mono (by omega)) (F1.trans F2))
theorem aOe {rest : Int} (S : LawH w H n r j s) (hz : n ≤ 70000) (h : ∀ H' j', j' ≤ j + 1 → LawH w H' (n + 20) r j' (thingS M s (takenT 6 rest)) → FrW w H H' → Q .none H') : Cd Γ 6 (.ref 804) [.ref (.lx 0), .int 6, .int rest, .str M, .ref w] H Q := by
 refine aB6 S fun P => ?_
 have f := fmodR rest 9 (by decide)
 nofun
 refine aJi (l := endsL) f.1 f.2 (by decide) ?_
 nofun
 intro H1 S1 F1 _
 nofun
 intro H2 S2 F2 _
 nofun
 exact aA1 (h _ j (by omega) (S2.mono (by omega)) (F1.trans F2))
theorem aOf {rest : Int} (S : LawH w H n r j s) (hz : n ≤ 70000) (h : ∀ H' j', j' ≤ j + 1 → LawH w H' (n + 20) r j' (thingS M s (takenT 7 rest)) → FrW w H H' → Q .none H') : Cd Γ 6 (.ref 804) [.ref (.lx 0), .int 7, .int rest, .str M, .ref w] H Q := by
 refine aB6 S fun P => ?_
 nofun
 intro H1 S1 F1 _
 nofun
 intro H2 S2 F2 _
 nofun
 exact aA1 (h _ j (by omega) (S2.mono (by omega)) (F1.trans F2))
theorem aQl {sort rest : Int} (hs : 1 ≤ sort ∧ sort < 8) (S : LawH w H n r j s) (hz : n ≤ 70000) (h : ∀ H' j', j' ≤ j + 1 → LawH w H' (n + 20) r j' (thingS M s (takenT sort rest)) → FrW w H H' → Q .none H') : Cd Γ 6 (.ref 804) [.ref (.lx 0), .int sort, .int rest, .str M, .ref w] H Q := by
 have : sort = 1 ∨ sort = 2 ∨ sort = 3 ∨ sort = 4 ∨ sort = 5 ∨ sort = 6 ∨ sort = 7 := by exact oz117 hs
 rcases this with rfl | rfl | rfl | rfl | rfl | rfl | rfl
 ·exact aO9 S hz h
 ·exact aOa S hz h
 ·exact aOb S hz h
 ·exact aOc S hz h
 ·exact aOd S hz h
 ·exact aOe S hz h
 ·exact aOf S hz h
end
noncomputable def atsL : List (List (Str × Str)) := [[], [(oS "type", oS "text")], [(oS "type", oS "")], [(oS "type", oS "hidden ")]]
noncomputable def pickA (k : Int) : List (Str × Str) := (atsL[k.toNat]?).getD []
noncomputable def fosT (sort rest : Int) : Thing := if sort = 8 then .input (pickA (rest.fmod 4)) else if sort = 9 then .br else if sort = 10 then .endP else .b (sigL rest)
theorem aC0 {k : Int} : (sigL k).length ≤ 4 := by
 rw [sigL, aDo]
 have := fmod5 k
 exact oz118 this
theorem aU6 {al : Str} {k : Int} : (chS al k).length = 1 := rfl
theorem aG7 {al : Str} : ∀ (k : Nat) (q : Int), ∀ x ∈ signsG al k q, x.length = 1
 | 0, _, x, h => nomatch h
 | k + 1, q, x, h => by
  rcases List.mem_cons.mp h with rfl | h
  ·exact aU6
  ·exact aG7 k _ x h
theorem aCp {k : Int} : ∀ x ∈ sigL k, x.length = 1 := fun x h => aG7 _ _ x h
section
variable {w : Id} {n r j : Nat} {s : LS} {M : Str}
theorem aE0 {sort rest : Int} (S : LawH w H n r j s) (hz : n ≤ 70000)
  (h : Plain fc_811 → ∀ H1, LawH w H1 (n + 1) r j { s with es := s.es ++ [eFos M] } → FrW w H H1 → Exs Γ fc_811 5 (List.drop 2 (bodyS (stAt 73))) [(oS "state", some (.ref (.lx 0))), (oS "sort", some (.int sort)), (oS "rest", some (.int rest)), (oS "mode", some (.str M)),
   (oS "errors", some (.ref (.lx 2))), (oS "attrs", none), (oS "sign", none)] H1 (RetQ Q)) : Cd Γ 6 (.ref 811) [.ref (.lx 0), .int sort, .int rest, .str M] H Q := by
 refine aSo fun P => ?_
 nofun
 intro H1 S1 F1 _
 exact aAj (h P H1 S1 F1)
theorem k4 : ∀ {k : Nat}, k < 4 → k = 0 ∨ k = 1 ∨ k = 2 ∨ k = 3 := by decide
theorem aUf {rest : Int} (S : LawH w H n r j s) (hz : n ≤ 70000) (h : ∀ H', LawH w H' (n + 40) r j (thingS M s (fosT 8 rest)) → FrW w H H' → Q .none H') : Cd Γ 6 (.ref 811) [.ref (.lx 0), .int 8, .int rest, .str M] H Q := by
 refine aE0 S hz fun P H1 S1 F1 => ?_
 have f := fmodR rest 4 (by decide)
 nofun
 refine aA6 (.lw (n + 5)) (aAi ?_)
 refine aA6 (.lw (n + 1)) (aA7 ⟨rfl, S1.fr _ (Nat.le_refl _), ?_⟩)
 have S2 := S1.tmp (c := .live (.lst []))
 refine aAi (aA6 (.lw (n + 2)) (aAi ?_))
 nofun
 refine ⟨S2.1.fr _ (Nat.le_refl _), ?_⟩
 have S3 := S2.1.tmp (c := .live (.lst [.tup [.str "type", .str "text"]]))
 refine aAi (aA6 (.lw (n + 3)) (aAi ?_))
 nofun
 refine ⟨S3.1.fr _ (Nat.le_refl _), ?_⟩
 have S4 := S3.1.tmp (c := .live (.lst [.tup [.str "type", .str ""]]))
 refine aAi (aA6 (.lw (n + 4)) (aAi ?_))
 nofun
 refine ⟨S4.1.fr _ (Nat.le_refl _), ?_⟩
 have S5 := S4.1.tmp (c := .live (.lst [.tup [.str "type", .str "hidden "]]))
 refine aA7 ⟨rfl, S5.1.fr _ (Nat.le_refl _), ?_⟩
 have S6 := S5.1.tmp (c := .live (.lst [.ref (.lw (n + 1)), .ref (.lw (n + 2)), .ref (.lw (n + 3)), .ref (.lw (n + 4))]))
 have F6 := F1.trans (S2.2.trans (S3.2.trans (S4.2.trans (S5.2.trans S6.2))))
 have g5 : upd (upd (upd (upd (upd H1 (.lw (n + 1)) (.live (.lst []))) (.lw (n + 2)) (.live (.lst [.tup [.str "type", .str "text"]]))) (.lw (n + 3)) (.live (.lst [.tup [.str "type", .str ""]]))) (.lw (n + 4)) (.live (.lst [.tup [.str "type", .str "hidden "]]))) (.lw (n + 5)) (.live (.lst [.ref (.lw (n + 1)), .ref (.lw (n + 2)), .ref (.lw (n + 3)), .ref (.lw (n + 4))])) (.lw (n + 5)) = _ := aA2
 have gk : ∀ k, k < 4 → upd (upd (upd (upd (upd H1 (.lw (n + 1)) (.live (.lst []))) (.lw (n + 2)) (.live (.lst [.tup [.str "type", .str "text"]]))) (.lw (n + 3)) (.live (.lst [.tup [.str "type", .str ""]]))) (.lw (n + 4)) (.live (.lst [.tup [.str "type", .str "hidden "]]))) (.lw (n + 5)) (.live (.lst [.ref (.lw (n + 1)), .ref (.lw (n + 2)), .ref (.lw (n + 3)), .ref (.lw (n + 4))])) (.lw (n + 1 + k)) = .live (.lst (pairL ((atsL[k]?).getD []))) := by
  intro k hk
  refine aA0 (aAc (by exact fun e => (zff (zn [n, k] (.h 1 (.a (.v 1) (.n 1)) (.n 4) (.h 1 (.a (.v 0) (.n 5)) (.a (.a (.v 0) (.n 1)) (.v 1)) .e)) (.n 1) (.n 0) rfl hk (Nat.le_of_eq e.symm))))) ?_
  rcases k4 hk with rfl | rfl | rfl | rfl
  ·exact aA0 (aAc (by omega)) (aA0 (aAc (by omega)) (aA0 (aAc (by omega)) aA2))
  ·exact aA0 (aAc (by omega)) (aA0 (aAc (by omega)) aA2)
  ·exact aA0 (aAc (by omega)) aA2
  ·exact aA2
 generalize upd (upd (upd (upd (upd H1 (.lw (n + 1)) (.live (.lst []))) (.lw (n + 2)) (.live (.lst [.tup [.str "type", .str "text"]]))) (.lw (n + 3)) (.live (.lst [.tup [.str "type", .str ""]]))) (.lw (n + 4)) (.live (.lst [.tup [.str "type", .str "hidden "]]))) (.lw (n + 5)) (.live (.lst [.ref (.lw (n + 1)), .ref (.lw (n + 2)), .ref (.lw (n + 3)), .ref (.lw (n + 4))])) = H6 at S6 F6 g5 gk ⊢
 have S6 := S6.1
 nofun
 have hk4 : (rest.fmod 4).toNat < 4 := by exact oz120 f
 refine aC7 (n := (rest.fmod 4).toNat) g5 (by omega) (v := .ref (.lw (n + 1 + (rest.fmod 4).toNat))) ?_ (by omega) ?_
 ·generalize (rest.fmod 4).toNat = k at hk4
  rcases k4 hk4 with rfl | rfl | rfl | rfl <;> rfl
 nofun
 refine aA4 (aD5 (kk := .out) (q := n + 1 + (rest.fmod 4).toNat) (at_ := pickA (rest.fmod 4)) S6 trivial (S6.outk (by exact zn [n] (.h 1 (.v 0) (.n 70000) .e) (.a (.a (.a (.a (.a (.a (.v 0) (.n 1)) (.n 1)) (.n 1)) (.n 1)) (.n 1)) (.n 1)) (.n 90000) rfl hz)) (gk _ hk4) ?_ (by exact zn [n] (.h 1 (.v 0) (.n 70000) .e) (.a (.a (.a (.a (.a (.a (.v 0) (.n 1)) (.n 1)) (.n 1)) (.n 1)) (.n 1)) (.n 1)) (.n 80000) rfl hz) (by decide +kernel) fun H7 S7 F7 => ?_) rfl
 ·have : ∀ k, k < 4 → ((atsL[k]?).getD []).length ≤ 10 := by decide +kernel
  exact this _ hk4
 nofun
 exact aA1 (h _ (S7.mono (by omega)) (F6.trans F7))
theorem aUg {rest : Int} (S : LawH w H n r j s) (hz : n ≤ 70000) (h : ∀ H', LawH w H' (n + 40) r j (thingS M s (fosT 9 rest)) → FrW w H H' → Q .none H') : Cd Γ 6 (.ref 811) [.ref (.lx 0), .int 9, .int rest, .str M] H Q := by
 refine aE0 S hz fun P H1 S1 F1 => ?_
 nofun
 refine aA6 (.lw (n + 1)) (aA7 ⟨rfl, S1.fr _ (Nat.le_refl _), ?_⟩)
 have S2 := S1.tmp (c := .live (.lst []))
 nofun
 refine aKy S2.1 ?_
 nofun
 refine aA4 (aD5 (kk := .out) (q := n + 1) (at_ := []) S2.1 trivial (S2.1.outk (by omega)) aA2 (by simp) (by omega) (by decide +kernel) fun H7 S7 F7 => ?_) rfl
 nofun
 exact aA1 (h _ (S7.mono (by omega)) (F1.trans (S2.2.trans F7)))
theorem aQc {rest : Int} (S : LawH w H n r j s) (hz : n ≤ 70000) (h : ∀ H', LawH w H' (n + 40) r j (thingS M s (fosT 10 rest)) → FrW w H H' → Q .none H') : Cd Γ 6 (.ref 811) [.ref (.lx 0), .int 10, .int rest, .str M] H Q := by
 refine aE0 S hz fun P H1 S1 F1 => ?_
 nofun
 intro H2 S2 F2 _
 nofun
 exact aA1 (h _ (S2.mono (by omega)) (F1.trans F2))
end
theorem aGj {l : List Str} {k : Nat} {x : Str} (h : l[k]? = some x) : chL (l.take (k + 1)) = chL (l.take k) ++ [chTok x] := by
 rw [chL, List.take_add_one, h, List.map_append]; rfl
theorem aCf {l : List Str} {k : Nat} {x : Str} {ts : List Tr} (h : l[k]? = some x) : (l.take (k + 1)).foldl putN ts = putN ((l.take k).foldl putN ts) x := by
 rw [List.take_add_one, h, List.foldl_append]; rfl
theorem aLk {ts : List Tr} {x : Str} : (putN ts x).length ≤ ts.length + 1 := by
 unfold putN
 split
 ·omega
 ·exact aHf
theorem aP3 {n : Nat} {ts : List Tr} {x : Str} (h : TxOk n ts) (hx : x.length ≤ 2) : TxOk (n + 1) (putN ts x) := by
 unfold putN
 split
 ·exact h.mono (Nat.le_succ _)
 ·exact aKi h hx
theorem putNs {l : List Str} (h : ∀ x ∈ l, x.length = 1) : ∀ (k : Nat), ((l.take k).foldl putN []).length ≤ k ∧ TxOk k ((l.take k).foldl putN [])
 | 0 => ⟨Nat.le_refl _, fun a x q => nomatch q⟩
 | k + 1 => by
  obtain ⟨i1, i2⟩ := putNs h k
  cases e : l[k]? with
  | none =>
   rw [List.take_add_one, e]
   simp only [Option.toList, List.append_nil]
   exact ⟨by omega, i2.mono (by omega)⟩
  | some x =>
   rw [aCf e]
   exact ⟨Nat.le_trans aLk (by exact oz123 i1), aP3 i2 (by rw [h x (List.mem_of_getElem? e)]; omega)⟩
section
variable {w : Id} {n r j : Nat} {s : LS} {M : Str}
theorem LawH.setB {m : Nat} {H' : AH} {vs : List AV} {v : AV} {t : Tr} {toks' : List AV} {es' : List (Str × Str)} (S : LawH w H n r j s) (hv : H (.lx 4) = .live (.lst vs)) (hm : n + 1 ≤ m)
  (A : ∀ i, i ≠ .lx 1 → i ≠ .lx 2 → i ≠ .lx 4 → (∀ k, n ≤ k → k < m → i ≠ .lw k) → H' i = H i) (ht : H' (.lx 1) = .live (.lst toks')) (he : H' (.lx 2) = .live (.lst (pairL es'))) (ho : H' (.lx 4) = .live (.lst (vs ++ [v]))) (hl : LyT U0 H' v t)
  (h1 : toks'.length ≤ m) (h2 : es'.length ≤ m) (h3 : ∀ a x, t = .lf a x → x.length ≤ 2 * m) : LawH w H' m r j { s with toks := toks', es := es', outs := s.outs ++ [t] } ∧ FrW w H H' := by
 have rj := S.rj
 refine hZ fun GZ kZ => ?_
 obtain ⟨a1, a2, a3, a4, a5, a6, a7⟩ := S.sz
 have u0 : ∀ i, U0 i → H i ≠ .free → H' i = H i := by
  rintro _ ⟨k, rfl⟩ hf
  refine A (.lw k) nofun nofun nofun fun q hq _ e => hf ?_
  rw [e]; exact S.fr q hq
 have fw : FrW w H H' := by
  rintro i (u | ⟨u, _⟩) hf
  ·exact u0 i u hf
  ·rcases u with rfl | rfl | rfl
   ·exact A (.lx 6) (by decide) (by decide) (by decide) fun q _ _ e => nomatch e
   ·exact A (.lx 7) (by decide) (by decide) (by decide) fun q _ _ e => nomatch e
   ·exact A (.lx 8) (by decide) (by decide) (by decide) fun q _ _ e => nomatch e
 obtain ⟨vs0, e0, l0⟩ := S.outs
 rwa [hv] at e0
 refine kZ ?_
 refine ⟨⟨(A (.lx 0) (by decide) (by decide) (by decide) fun q _ _ e => nomatch e).trans S.d, ht, he, (A (.lx r) (aBx (by exact fun e => (zff (zn [r] (.h 1 (.n 10) (.v 0) (.h 1 (.v 0) (.n 1) .e)) (.n 1) (.n 0) rfl rj.1 (Nat.le_of_eq e))))) (aBx (by exact fun e => (zff (zn [r] (.h 1 (.n 10) (.v 0) (.h 1 (.v 0) (.n 2) .e)) (.n 1) (.n 0) rfl rj.1 (Nat.le_of_eq e))))) (aBx (by exact fun e => (zff (zn [r] (.h 1 (.n 10) (.v 0) (.h 1 (.v 0) (.n 4) .e)) (.n 1) (.n 0) rfl rj.1 (Nat.le_of_eq e))))) fun q _ _ e => nomatch e).trans S.run, ⟨_, ho, (l0.keep (fun _ q => q) u0).snoc hl⟩, ?_, ?_, fun k hk => ?_, fun k hk => ?_, fun i a b => ?_, S.ww, S.rj, ⟨h1, h2, by show s.run.length ≤ m; omega, by rw [List.length_append]; simp only [List.length_cons, List.length_nil]; exact zn [s.outs.length, n, m] (.h 1 (.a (.v 1) (.n 1)) (.v 2) (.h 1 (.v 0) (.v 1) .e)) (.a (.v 0) (.a (.n 0) (.n 1))) (.v 2) rfl hm a4, by show s.ow.length ≤ m; omega, by show s.ts.length ≤ m; omega, by show s.forms ≤ m; omega⟩, ⟨(S.tx.1.mono (by omega)).snoc h3, S.tx.2.mono (by omega)⟩⟩, fw⟩
 ·obtain ⟨os, e1, e2⟩ := S.ow
  exact ⟨os, (A (.lx 5) (by decide) (by decide) (by decide) fun q _ _ e => nomatch e).trans e1, e2.keep u0⟩
 ·obtain ⟨ts, e1, e2⟩ := S.ts
  exact ⟨ts, (A _ (S.wne (by omega)) (S.wne (by omega)) (S.wne (by omega)) fun q _ _ => S.wlw).trans e1, e2.keep (fun _ q => q) fw.ui⟩
 ·exact (A (.lw k) nofun nofun nofun fun q _ hq => aAc (by exact fun e => (zff (zn [k, q, m] (.h 1 (.v 2) (.v 0) (.h 1 (.a (.v 1) (.n 1)) (.v 2) (.h 1 (.v 0) (.v 1) .e))) (.n 1) (.n 0) rfl hk hq (Nat.le_of_eq e))))).trans (S.fr k (by exact zn [m, k, n] (.h 1 (.a (.v 2) (.n 1)) (.v 0) (.h 1 (.v 0) (.v 1) .e)) (.v 2) (.v 1) rfl hm hk))
 ·exact (A (.lx k) (aBx (by exact fun e => (zff (zn [k, j, r] (.h 1 (.n 10) (.v 2) (.h 1 (.v 2) (.v 1) (.h 1 (.a (.v 1) (.n 1)) (.v 0) (.h 1 (.v 0) (.n 1) .e)))) (.n 1) (.n 0) rfl rj.1 rj.2 hk (Nat.le_of_eq e))))) (aBx (by exact fun e => (zff (zn [k, j, r] (.h 1 (.n 10) (.v 2) (.h 1 (.v 2) (.v 1) (.h 1 (.a (.v 1) (.n 1)) (.v 0) (.h 1 (.v 0) (.n 2) .e)))) (.n 1) (.n 0) rfl rj.1 rj.2 hk (Nat.le_of_eq e))))) (aBx (by exact fun e => (zff (zn [k, j, r] (.h 1 (.n 10) (.v 2) (.h 1 (.v 2) (.v 1) (.h 1 (.a (.v 1) (.n 1)) (.v 0) (.h 1 (.v 0) (.n 4) .e)))) (.n 1) (.n 0) rfl rj.1 rj.2 hk (Nat.le_of_eq e))))) fun q _ _ e => nomatch e).trans (S.fx k hk)
 ·exact (A i (b 1) (b 2) (b 4) fun q _ _ => a q).trans (S.oth i a b)
set_option maxHeartbeats 1600000 in
theorem aQd {rest : Int} (S : LawH w H n r j s) (hz : n ≤ 70000) (h : ∀ H', LawH w H' (n + 40) r j (thingS M s (fosT 11 rest)) → FrW w H H' → Q .none H') : Cd Γ 6 (.ref 811) [.ref (.lx 0), .int 11, .int rest, .str M] H Q := by
 refine aE0 S hz fun P H1 S1 F1 => ?_
 nofun
 refine aA6 (.lw (n + 1)) (aA7 ⟨rfl, S1.fr _ (Nat.le_refl _), ?_⟩)
 have S2 := S1.tmp (c := .live (.lst []))
 have a2 : upd H1 (.lw (n + 1)) (.live (.lst [])) (.lw (n + 1)) = .live (.lst (pairL [])) := aA2
 have F2 := F1.trans S2.2
 generalize upd H1 (.lw (n + 1)) (.live (.lst [])) = H2 at S2 a2 F2 ⊢
 have S2 := S2.1
 nofun
 obtain ⟨vs, v1, v2⟩ := S2.outs
 have F : StartF w H2 (startH H2 (n + 2) (.lx 4) vs { s with es := s.es ++ [eFos M] } sB [] false) (n + 2) (.lx 4) vs { s with es := s.es ++ [eFos M] } sB [] false := startF (fun k e => nomatch e) (by decide)
 have S6 := S2.start (kk := .out) (vs := vs) (nm := sB) (at_ := []) (cl := false) trivial v1 (by decide +kernel)
 refine aA4 (aId (kk := .out) (q := n + 1) (at_ := []) S2 trivial v1 (by rw [v2.len]; have := S2.sz.2.2.2.1; exact oz133 hz this) a2 (by simp) (by omega) (by decide +kernel) (fun _ => ?_) (fun q => absurd q.1 (by decide +kernel))) rfl
 have S6 := S6.1
 change LawH w (startH H2 (n + 2) (.lx 4) vs { s with es := s.es ++ [eFos M] } sB [] false) _ r j _ at S6
 change DropV .none (Exs _ _ _ _ _ (startH H2 (n + 2) (.lx 4) vs { s with es := s.es ++ [eFos M] } sB [] false) _)
 generalize startH H2 (n + 2) (.lx 4) vs { s with es := s.es ++ [eFos M] } sB [] false = H6 at F S6 ⊢
 have l4 := aC0 (k := rest)
 have l1 := aCp (k := rest)
 generalize hl : sigL rest = l at l4 l1
 refine aAj (aAt (fun k ρ H7 => k ≤ l.length ∧ (∃ u, ρ = [(oS "state", some (.ref (.lx 0))), (oS "sort", some (.int 11)), (oS "rest", some (.int rest)), (oS "mode", some (.str M)), (oS "errors", some (.ref (.lx 2))), (oS "attrs", none), (oS "sign", u)]) ∧
  H7 (.lx 1) = .live (.lst (s.toks ++ [startTok sB (pairsS s []) false] ++ chL (l.take k))) ∧ H7 (.lx 2) = .live (.lst (pairL (s.es ++ [eFos M] ++ (l.take k).map fun _ => eFos M))) ∧
  (∃ kv, H7 (.lw (n + 5)) = .live (.lst kv) ∧ LyTs (fun _ => False) H7 kv ((l.take k).foldl putN [])) ∧ H7 (.lw (n + 10)) = .live (.lst (strL l)) ∧
  ∀ i, i ≠ .lx 1 → i ≠ .lx 2 → i ≠ .lw (n + 5) → i ≠ .lw (n + 10) → i ≠ .lw (n + 11) → H7 i = H6 i) ?_)
 refine aBf ?_
 nofun
 refine aA4 (aD4 (n := n + 10) (S6.fr _ (by omega)) (S6.fr _ (by omega)) fun H7 g7 o7 => ?_) rfl
 rw [hl] at g7
 refine ⟨_, _, rfl, g7, ⟨Nat.zero_le _, ⟨_, rfl⟩, (o7 (.lx 1) nofun nofun).trans ?_, (o7 (.lx 2) nofun nofun).trans ?_, ⟨[], (o7 _ (aAc (by omega)) (aAc (by omega))).trans F.c, .nil⟩, g7, fun i _ _ _ b c => o7 i b c⟩, fun k ρ H7 q => q.2.2.2.2.2.1, ?_, ?_⟩
 ·rw [F.t]; simp [chL, pairsS]
 ·rw [S6.es, List.take_zero, List.map_nil, List.append_nil]; rfl
 ·rintro k _ H8 u zw0 hu
  obtain ⟨hk, ⟨u0, rfl⟩, t8, e8, ⟨kv, c8, ly8⟩, g8, o8⟩ := zw0
  obtain ⟨x, rfl, hx⟩ := aC3 hu
  have x3 : k < l.length := (List.getElem?_eq_some_iff.mp hx).1
  obtain ⟨p1, p2⟩ := putNs l1 k
  have x1 := l1 x (List.mem_of_getElem? hx)
  have d8 : H8 (.lx 0) = .live (.dcs (stF r s.forms)) := (o8 (.lx 0) (by decide) (by decide) nofun nofun nofun).trans S6.d
  have k8 : H8 (.lx 4) = .live (.lst (vs ++ [.ref (.lw (n + 2 + 4))])) := (o8 (.lx 4) (by decide) (by decide) nofun nofun nofun).trans F.k
  have m8 : H8 (.lw (n + 2 + 4)) = .live (.lst [.str sB, .ref (.lw (n + 2 + 1)), .ref (.lw (n + 2 + 3))]) := (o8 (.lw (n + 2 + 4)) nofun nofun (aAc (by omega)) (aAc (by omega)) (aAc (by omega))).trans F.e
  refine ⟨_, aAv (by wtm_at "m.put"), ?_⟩
  nofun
  refine aB9 d8 (.head _) ?_
  nofun
  have tl : s.toks.length ≤ n + 2 := S2.sz.1
  have el : (s.es ++ [eFos M]).length ≤ n + 2 := S2.sz.2.1
  refine aA5 t8 (by rw [List.length_append, List.length_append, chL, List.length_map, List.length_take]; simp only [List.length_cons, List.length_nil]; exact zn [(min k l.length), l.length, s.toks.length, n] (.h 1 (.v 3) (.n 70000) (.h 1 (.v 1) (.n 4) (.h 1 (.v 2) (.a (.v 3) (.n 2)) (.h 1 (.v 0) (.v 1) .e)))) (.a (.a (.v 2) (.a (.n 0) (.n 1))) (.v 0)) (.n 1000000) rfl hz l4 tl (Nat.min_le_right k l.length)) ?_
  have e9 : upd H8 (.lx 1) (.live (.lst (s.toks ++ [startTok sB (pairsS s []) false] ++ chL (l.take k) ++ [chTok x]))) (.lx 2) = .live (.lst (pairL (s.es ++ [eFos M] ++ (l.take k).map fun _ => eFos M))) := aA0 (by decide) e8
  rw [show AV.tup [.str "char", .str x] = chTok x from rfl]
  nofun
  refine aA5 e9 (by rw [pairL, List.length_map, List.length_append, List.length_map, List.length_take]; exact oz135 hz l4 el) ?_
  have q9 : ∀ i, i ≠ .lx 1 → i ≠ .lx 2 → upd (upd H8 (.lx 1) (.live (.lst (s.toks ++ [startTok sB (pairsS s []) false] ++ chL (l.take k) ++ [chTok x])))) (.lx 2) (.live (.lst (pairL (s.es ++ [eFos M] ++ (l.take k).map fun _ => eFos M) ++ [.tup [.str "foster-parented", .str M]]))) i = H8 i := fun i a b => aA0 b (aA0 a rfl)
  have t9 : upd (upd H8 (.lx 1) (.live (.lst (s.toks ++ [startTok sB (pairsS s []) false] ++ chL (l.take k) ++ [chTok x])))) (.lx 2) (.live (.lst (pairL (s.es ++ [eFos M] ++ (l.take k).map fun _ => eFos M) ++ [.tup [.str "foster-parented", .str M]]))) (.lx 1) = .live (.lst (s.toks ++ [startTok sB (pairsS s []) false] ++ chL (l.take k) ++ [chTok x])) := aA0 (by decide) aA2
  have u9 : upd (upd H8 (.lx 1) (.live (.lst (s.toks ++ [startTok sB (pairsS s []) false] ++ chL (l.take k) ++ [chTok x])))) (.lx 2) (.live (.lst (pairL (s.es ++ [eFos M] ++ (l.take k).map fun _ => eFos M) ++ [.tup [.str "foster-parented", .str M]]))) (.lx 2) = .live (.lst (pairL (s.es ++ [eFos M] ++ (l.take k).map fun _ => eFos M) ++ [.tup [.str "foster-parented", .str M]])) := aA2
  generalize upd (upd H8 (.lx 1) (.live (.lst (s.toks ++ [startTok sB (pairsS s []) false] ++ chL (l.take k) ++ [chTok x])))) (.lx 2) (.live (.lst (pairL (s.es ++ [eFos M] ++ (l.take k).map fun _ => eFos M) ++ [.tup [.str "foster-parented", .str M]]))) = H9 at q9 t9 u9 ⊢
  have d9 := (q9 (.lx 0) (by decide) (by decide)).trans d8
  have k9 := (q9 (.lx 4) (by decide) (by decide)).trans k8
  have m9 := (q9 (.lw (n + 2 + 4)) nofun nofun).trans m8
  have c9 := (q9 (.lw (n + 5)) nofun nofun).trans c8
  nofun
  refine aB9 d9 (.tail _ (.tail _ (.tail _ (.head _)))) ?_
  nofun
  refine aGg k9 (v := .ref (.lw (n + 2 + 4))) (by simp) ?_
  refine aFl (aC7 (n := 2) m9 rfl rfl (by omega) ?_)
  nofun
  refine aA4 (aI9 (q := .lw (n + 2 + 3)) (U := fun _ => False) c9 (ly8.keep (fun _ q => q) (fun _ q _ => q.elim)) (by rw [ly8.len]; exact oz136 l4 x3 p1) (p2.mono (by omega)) (by omega) fun vs' ly hv => ?_) rfl
  refine aAj (aAg (aAd ⟨x3, ⟨_, rfl⟩, ?_, ?_, ⟨vs', aA2, ?_⟩, ?_, fun i a b c d e => ?_⟩))
  ·rw [aGj hx, ← List.append_assoc]
   exact aA0 nofun t9
  ·rw [aE1 hx, ← List.append_assoc]
   refine aA0 nofun (u9.trans ?_)
   simp [pairL, pairA]
  ·rw [aCf hx]
   exact ly.keep (fun _ q => q) (fun _ q _ => q.elim)
  ·exact aA0 (aAc (by omega)) ((q9 (.lw (n + 10)) nofun nofun).trans g8)
  ·exact aA0 c ((q9 i a b).trans (o8 i a b c d e))
 ·rintro _ H8 zw0
  refine hZ fun GZ kZ => ?_
  obtain ⟨hk, ⟨u0, rfl⟩, t8, e8, ⟨kv, c8, ly8⟩, g8, o8⟩ := zw0
  have len : (strL l).length = l.length := by rw [strL, List.length_map]
  obtain ⟨p1, p2⟩ := putNs l1 (strL l).length
  rw [len, List.take_of_length_le (Nat.le_refl _)] at t8 e8 ly8 p1 p2
  have d8 : H8 (.lx 0) = .live (.dcs (stF r s.forms)) := (o8 (.lx 0) (by decide) (by decide) nofun nofun nofun).trans S6.d
  refine kZ ?_
  nofun
  refine aB9 d8 (.head _) ?_
  nofun
  have tl : s.toks.length ≤ n + 2 := S2.sz.1
  have el : (s.es ++ [eFos M]).length ≤ n + 2 := S2.sz.2.1
  have k8 : H8 (.lx 4) = .live (.lst (vs ++ [.ref (.lw (n + 2 + 4))])) := (o8 (.lx 4) (by decide) (by decide) nofun nofun nofun).trans F.k
  have m8 : H8 (.lw (n + 2 + 4)) = .live (.lst [.str sB, .ref (.lw (n + 2 + 1)), .ref (.lw (n + 2 + 3))]) := (o8 (.lw (n + 2 + 4)) nofun nofun (aAc (by omega)) (aAc (by omega)) (aAc (by omega))).trans F.e
  have p8 : H8 (.lw (n + 2 + 1)) = .live (.lst (pairL (pairsS s []))) := (o8 (.lw (n + 2 + 1)) nofun nofun (aAc (by omega)) (aAc (by omega)) (aAc (by omega))).trans F.p
  refine aA5 t8 (by simp only [List.length_append, chL, List.length_map, List.length_cons, List.length_nil]; exact zn [s.toks.length, n, l.length] (.h 1 (.v 1) (.n 70000) (.h 1 (.v 2) (.n 4) (.h 1 (.v 0) (.a (.v 1) (.n 2)) .e))) (.a (.a (.v 0) (.a (.n 0) (.n 1))) (.v 2)) (.n 1000000) rfl hz l4 tl) ?_
  have e9 : upd H8 (.lx 1) (.live (.lst (s.toks ++ [startTok sB (pairsS s []) false] ++ chL l ++ [endTok sB]))) (.lx 2) = .live (.lst (pairL (s.es ++ [eFos M] ++ l.map fun _ => eFos M))) := aA0 (by decide) e8
  rw [show AV.tup [.str "end", .str "b", .tup [], .bool false] = endTok sB from rfl]
  nofun
  refine aA5 e9 (by rw [pairL, List.length_map, List.length_append, List.length_map]; exact oz138 hz l4 el) ?_
  nofun
  have q9 : ∀ i, i ≠ .lx 1 → i ≠ .lx 2 → upd (upd H8 (.lx 1) (.live (.lst (s.toks ++ [startTok sB (pairsS s []) false] ++ chL l ++ [endTok sB])))) (.lx 2) (.live (.lst (pairL (s.es ++ [eFos M] ++ l.map fun _ => eFos M) ++ [.tup [.str "foster-parented", .str M]]))) i = H8 i := fun i a b => aA0 b (aA0 a rfl)
  have t9 : upd (upd H8 (.lx 1) (.live (.lst (s.toks ++ [startTok sB (pairsS s []) false] ++ chL l ++ [endTok sB])))) (.lx 2) (.live (.lst (pairL (s.es ++ [eFos M] ++ l.map fun _ => eFos M) ++ [.tup [.str "foster-parented", .str M]]))) (.lx 1) = .live (.lst (s.toks ++ [startTok sB (pairsS s []) false] ++ chL l ++ [endTok sB])) := aA0 (by decide) aA2
  have u9 : upd (upd H8 (.lx 1) (.live (.lst (s.toks ++ [startTok sB (pairsS s []) false] ++ chL l ++ [endTok sB])))) (.lx 2) (.live (.lst (pairL (s.es ++ [eFos M] ++ l.map fun _ => eFos M) ++ [.tup [.str "foster-parented", .str M]]))) (.lx 2) = .live (.lst (pairL (s.es ++ [eFos M] ++ (l.map fun _ => eFos M) ++ [eFos M]))) := aA2.trans (by simp [pairL, pairA])
  generalize upd (upd H8 (.lx 1) (.live (.lst (s.toks ++ [startTok sB (pairsS s []) false] ++ chL l ++ [endTok sB])))) (.lx 2) (.live (.lst (pairL (s.es ++ [eFos M] ++ l.map fun _ => eFos M) ++ [.tup [.str "foster-parented", .str M]]))) = H9 at q9 t9 u9 ⊢
  have k9 := (q9 (.lx 4) (by decide) (by decide)).trans k8
  have m9 := (q9 (.lw (n + 2 + 4)) nofun nofun).trans m8
  have p9 := (q9 (.lw (n + 2 + 1)) nofun nofun).trans p8
  have c9 := (q9 (.lw (n + 2 + 3)) nofun nofun).trans c8
  have A9a : ∀ i, i ≠ .lx 1 → i ≠ .lx 2 → i ≠ .lx 4 → (∀ k, n + 2 ≤ k → k < n + 40 → i ≠ .lw k) → H9 i = H6 i := fun i a b c d => (q9 i a b).trans (o8 i a b (d (n + 5) (by omega) (by omega)) (d (n + 10) (by omega) (by omega)) (d (n + 11) (by omega) (by omega)))
  have A9 : ∀ i, i ≠ .lx 1 → i ≠ .lx 2 → i ≠ .lx 4 → (∀ k, n + 2 ≤ k → k < n + 40 → i ≠ .lw k) → H9 i = H2 i := fun i a b c d =>
   (A9a i a b c d).trans (F.o i (d (n + 2) (by omega) (by omega)) (d (n + 2 + 1) (by omega) (by omega)) (d (n + 2 + 3) (by omega) (by omega)) (d (n + 2 + 4) (by omega) (by omega)) a c)
  have lyB : LyT U0 H9 (.ref (.lw (n + 2 + 4))) (.el sB (pairsS s []) (l.foldl putN [])) := .el ⟨_, rfl⟩ ⟨_, rfl⟩ ⟨_, rfl⟩ (by decide +kernel) m9 p9 c9 (ly8.keep (fun _ q => q.elim) fun _ q _ => q.elim)
  have z1 : (s.toks ++ [startTok sB (pairsS s []) false] ++ chL l ++ [endTok sB]).length ≤ n + 40 := by
   simp only [List.length_append, chL, List.length_map, List.length_cons, List.length_nil]; exact zn [s.toks.length, n, l.length] (.h 1 (.v 2) (.n 4) (.h 1 (.v 0) (.a (.v 1) (.n 2)) .e)) (.a (.a (.a (.v 0) (.a (.n 0) (.n 1))) (.v 2)) (.a (.n 0) (.n 1))) (.a (.v 1) (.n 40)) rfl l4 tl
  have z2 : (s.es ++ [eFos M] ++ (l.map fun _ => eFos M) ++ [eFos M]).length ≤ n + 40 := by
   simp only [List.length_append, List.length_map, List.length_cons, List.length_nil] at el ⊢; exact zn [s.es.length, n, l.length] (.h 1 (.v 2) (.n 4) (.h 1 (.a (.v 0) (.a (.n 0) (.n 1))) (.a (.v 1) (.n 2)) .e)) (.a (.a (.a (.v 0) (.a (.n 0) (.n 1))) (.v 2)) (.a (.n 0) (.n 1))) (.a (.v 1) (.n 40)) rfl l4 el
  have SB := S2.setB v1 (Nat.add_le_add_left (by decide : 2 + 1 ≤ 40) n) A9 t9 u9 k9 lyB z1 z2 (fun a x e => nomatch e)
  refine aA1 (h _ ?_ (F2.trans SB.2))
  have e : thingS M s (fosT 11 rest) = thingS M s (.b l) := by rw [← hl]; rfl
  rw [e]
  exact SB.1
end
section
variable {w : Id} {n r j : Nat} {s : LS} {M : Str}
theorem aJr {sort rest : Int} (hs : 8 ≤ sort ∧ sort < 12) (S : LawH w H n r j s) (hz : n ≤ 70000) (h : ∀ H', LawH w H' (n + 40) r j (thingS M s (fosT sort rest)) → FrW w H H' → Q .none H') : Cd Γ 6 (.ref 811) [.ref (.lx 0), .int sort, .int rest, .str M] H Q := by
 have : sort = 8 ∨ sort = 9 ∨ sort = 10 ∨ sort = 11 := by exact oz141 hs
 rcases this with rfl | rfl | rfl | rfl
 ·exact aUf S hz h
 ·exact aUg S hz h
 ·exact aQc S hz h
 ·exact aQd S hz h
theorem LawH.two {H1 : AH} (S : LawH w H n r j s) (o : ∀ i, i ≠ .lw n → i ≠ .lw (n + 1) → H1 i = H i) : LawH w H1 (n + 2) r j s ∧ FrW w H H1 := by
 have e : H1 = upd (upd H (.lw n) (H1 (.lw n))) (.lw (n + 1)) (H1 (.lw (n + 1))) := by
  funext i
  by_cases q : i = .lw (n + 1)
  ·subst q; exact aA2.symm
  ·by_cases q2 : i = .lw n
   ·subst q2; exact (aA0 q aA2).symm
   ·exact (aA0 q (aA0 q2 (o i q2 q).symm)).symm
 rw [e]
 have S1 := S.tmp (c := H1 (.lw n))
 have S2 := S1.1.tmp (c := H1 (.lw (n + 1)))
 exact ⟨S2.1, S1.2.trans S2.2⟩
theorem aFs {a : Addr} {ns : List Int} {k : Nat} {i : Int} (c : Scr Γ.h₀ a ns) (hi : i = (k : Int)) (hk : k ≤ 1000) (h : Q (.int (digI ns k)) H) : Cd Γ 2 (.ref 738) [.glob (.ref a), .int i] H Q := by
 subst hi
 exact aQb c hk h
noncomputable def noNul (l : List Str) : List Str := l.filter fun x => decide (x ≠ sNul)
theorem aMr {x : Str} {l : List Str} : noNul (x :: l) = if x = sNul then noNul l else x :: noNul l := by
 unfold noNul
 by_cases h : x = sNul
 ·rw [if_pos h, List.filter_cons_of_neg (by simp [h])]
 ·rw [if_neg h, List.filter_cons_of_pos (by simpa using h)]
theorem aDf : ∀ (l : List Str) (s : LS), (readS s l).run = s.run ++ noNul l
 | [], s => by rw [readS]; simp [noNul]
 | x :: l, s => by
  have := aDf l (read1 s x)
  show (readS (read1 s x) l).run = _
  rw [this, aMr]
  by_cases h : x = sNul
  ·rw [if_pos h, read1]; show (if x = sNul then s.run else s.run ++ [x]) ++ _ = _; rw [if_pos h]
  ·rw [if_neg h, read1]; show (if x = sNul then s.run else s.run ++ [x]) ++ _ = _; rw [if_neg h, List.append_assoc]; rfl
theorem aBz {s : LS} : (settleS s).run = [] := by
 unfold settleS; split <;> rfl
theorem aBt {kk : KK} {nm : Str} {at_ : List (Str × Str)} {cl : Bool} : (startS s kk nm at_ cl).run = s.run := by
 unfold startS
 cases kk <;> (simp only []; split <;> rfl)
theorem aDp {t : Thing} : (thingS M s t).run = s.run := by
 cases t with
 | hidden x => exact aBt
 | form cl => exact aBt
 | head nm => exact aBt
 | input at_ => exact aBt
 | br => exact aBt
 | _ => rfl
theorem aL9 {l : List Str} (h1 : ∀ x ∈ l, x.length = 1) (h2 : l.length ≤ 16) : okSigns (noNul l) := by
 refine ⟨Nat.le_trans (List.length_filter_le _ _) h2, fun x hx => ?_⟩
 obtain ⟨a, b⟩ := List.mem_filter.mp hx
 exact ⟨by rw [h1 x a]; omega, of_decide_eq_true b⟩
noncomputable def thingOf (sort rest : Int) : Thing := if sort < 8 then takenT sort rest else fosT sort rest
noncomputable def midS (M : Str) (s : LS) (number : Int) : LS := if 0 < number.fmod 12 then thingS M (settleS s) (thingOf (number.fmod 12) (number.fdiv 12)) else s
noncomputable def gapS (M : Str) (s : LS) (l1 : List Str) (number : Int) (l2 : List Str) : LS := settleS (readS (midS M (readS s l1) number) l2)
theorem aR0 {number : Int} (hr : s.run.length ≤ 4) : (midS M s number).run.length ≤ 4 ∧ (0 < number.fmod 12 → (midS M s number).run = []) ∧ (¬ 0 < number.fmod 12 → midS M s number = s) := by
 unfold midS
 by_cases h : 0 < number.fmod 12
 ·rw [if_pos h, aDp, aBz]; exact ⟨by simp, fun _ => rfl, fun q => absurd h q⟩
 ·rw [if_neg h]; exact ⟨hr, fun q => absurd q h, fun _ => rfl⟩
theorem aP1 {a b : List Str} (ha : okSigns a) (hb : okSigns b) (h : a.length + b.length ≤ 16) : okSigns (a ++ b) :=
 ⟨by rw [List.length_append]; exact h, fun x hx => (List.mem_append.mp hx).elim (ha.2 x) (hb.2 x)⟩
theorem aHa {l : List Str} : (noNul l).length ≤ l.length := List.length_filter_le _ _
theorem aI5 {a : Addr} {ns : List Int} {k : Nat} {i : Int} (c : Scr Γ.h₀ a ns) (hi : i = (k : Int)) (hk : k ≤ 900) (S : LawH w H n r j s) (hr : s.run = []) (hz : n ≤ 60000)
  (h : ∀ H' r' j', LawH w H' (n + 200) r' j' (gapS M s (sigL (digI ns k)) (digI ns (k + 1)) (sigL (digI ns (k + 2)))) → FrW w H H' → Q .none H') : Cd Γ 8 (.ref 818) [.ref (.lx 0), .glob (.ref a), .int i, .str M, .ref w] H Q := by
 have l4 : ∀ q, (sigL q).length ≤ 4 := fun q => aC0
 have l1 : ∀ q, ∀ x ∈ sigL q, x.length = 1 := fun q => aCp
 refine aSp fun P => ?_
 have a4 := l4 (digI ns k)
 have b4 := l4 (digI ns (k + 2))
 have okA := aL9 (l1 (digI ns k)) (by omega)
 have okB := aL9 (l1 (digI ns (k + 2))) (by omega)
 have nA := aHa (l := sigL (digI ns k))
 have nB := aHa (l := sigL (digI ns (k + 2)))
 nofun
 refine aA4 (aFs c hi (by omega) ?_) rfl
 nofun
 refine aA4 (aD4 (S.fr _ (Nat.le_refl _)) (S.fr _ (Nat.le_succ _)) fun H1 g1 o1 => ?_) rfl
 obtain ⟨S1, F1⟩ := S.two o1
 nofun
 refine aA4 (aO7 S1 g1 (by exact oz142 hz a4) fun H2 S2 F2 => ?_) rfl
 have S2 := S2.mono (n' := n + 20) (by omega)
 have F2 := F1.trans F2
 have r2 : (readS s (sigL (digI ns k))).run = noNul (sigL (digI ns k)) := by rw [aDf, hr]; rfl
 generalize hs2 : readS s (sigL (digI ns k)) = s2 at S2 r2
 have ok2 : okSigns s2.run := by rw [r2]; exact okA
 nofun
 refine aA4 (aFs (k := k + 1) c (by exact Int.le_antisymm (zi [k] [i] (.h 1 (.w 0) (.u 0) .e) (.a (.w 0) (.n 1)) (.c (.a (.v 0) (.n 1))) rfl (Int.le_of_eq hi)) (zi [k] [i] (.h 1 (.u 0) (.w 0) .e) (.c (.a (.v 0) (.n 1))) (.a (.w 0) (.n 1)) rfl (Int.le_of_eq hi.symm))) (by omega) ?_) rfl
 generalize hnum : digI ns (k + 1) = num
 obtain ⟨f0, f1⟩ := fmodR num 12 (by decide)
 have tail : ∀ H3 r3 j3, LawH w H3 (n + 120) r3 j3 (midS M s2 num) → FrW w H H3 → Exs Γ fc_818 7 (List.drop 4 (bodyS (stAt 74))) [(oS "state", some (.ref (.lx 0))), (oS "script", some (.glob (.ref a))), (oS "at", some (.int i)), (oS "mode", some (.str M)), (oS "within", some (.ref w)),
   (oS "number", some (.int num)), (oS "sort", some (.int (num.fmod 12)))] H3 (RetQ Q) := by
  intro H3 r3 j3 S3 F3
  have ok3 : okSigns (midS M s2 num).run ∧ (midS M s2 num).run.length ≤ 4 := by
   obtain ⟨m1, m2, m3⟩ := aR0 (M := M) (s := s2) (number := num) (by rw [r2]; omega)
   refine ⟨?_, m1⟩
   by_cases q : 0 < num.fmod 12
   ·rw [m2 q]; exact ⟨by simp, fun x hx => nomatch hx⟩
   ·rw [m3 q]; exact ok2
  nofun
  refine aA4 (aFs (k := k + 2) c (by exact Int.le_antisymm (zi [k] [i] (.h 1 (.w 0) (.u 0) .e) (.a (.w 0) (.n 2)) (.c (.a (.v 0) (.n 2))) rfl (Int.le_of_eq hi)) (zi [k] [i] (.h 1 (.u 0) (.w 0) .e) (.c (.a (.v 0) (.n 2))) (.a (.w 0) (.n 2)) rfl (Int.le_of_eq hi.symm))) (by omega) ?_) rfl
  nofun
  refine aA4 (aD4 (S3.fr _ (Nat.le_refl _)) (S3.fr _ (Nat.le_succ _)) fun H4 g4 o4 => ?_) rfl
  obtain ⟨S4, F4⟩ := S3.two o4
  nofun
  refine aA4 (aO7 S4 g4 (by exact oz145 hz b4) fun H5 S5 F5 => ?_) rfl
  have S5 := S5.mono (n' := n + 140) (by exact oz146 b4)
  nofun
  refine aA4 (aIa S5 (by rw [aDf]; exact aP1 ok3.1 okB (by exact oz147 b4 nB ok3)) (by omega) fun H6 S6 F6 => ?_) rfl
  nofun
  refine aA1 (h H6 (j3 + 1) (j3 + 1) ?_ (F3.trans (F4.trans (F5.trans F6))))
  have S7 := S6.mono (n' := n + 200) (by omega)
  rw [gapS, hs2, hnum]
  exact S7
 iterate 7 wtm_at "m.go"
 refine aNj (Tv.mono (Q := fun b H' => b = decide (0 < num.fmod 12) ∧ H' = H2) ?_ ?_)
 ·nofun
  exact ⟨rfl, rfl⟩
 rintro b _ ⟨hb, rfl⟩
 refine ⟨fun e => ?_, fun e => ?_⟩
 ·rw [hb] at e
  have e : 0 < num.fmod 12 := of_decide_eq_true e
  nofun
  refine aA4 (aIa S2 ok2 (by omega) fun H3 S3 F3 => ?_) rfl
  have F3 := F2.trans F3
  have mid : midS M s2 num = thingS M (settleS s2) (thingOf (num.fmod 12) (num.fdiv 12)) := if_pos e
  nofun
  ·rename_i e2
   have e2 : num.fmod 12 < 8 := of_decide_eq_true e2
   refine aA4 (aQl ⟨by exact oz148 e, e2⟩ S3 (by omega) fun H4 j4 hj S4 F4 => aAj (aAg (aA9 (aAg (aA9 (tail H4 (j + 1) j4 ?_ (F3.trans F4))))))) rfl
   rw [mid, thingOf, if_pos e2]
   exact S4.mono (by omega)
  ·rename_i e2
   have e2 : ¬ num.fmod 12 < 8 := of_decide_eq_false e2
   refine aA4 (aJr ⟨by exact oz149 e2, by omega⟩ S3 (by omega) fun H4 S4 F4 => aAj (aAg (aA9 (aAg (aA9 (tail H4 (j + 1) (j + 1) ?_ (F3.trans F4))))))) rfl
   rw [mid, thingOf, if_neg e2]
   exact S4.mono (by omega)
 ·rw [hb] at e
  have e : ¬ 0 < num.fmod 12 := of_decide_eq_false e
  have mid : midS M s2 num = s2 := if_neg e
  refine aAg (aA9 (tail _ r j ?_ F2))
  rw [mid]
  exact S2.mono (by omega)
end
def FA (Γ : Cx) (X : AH) (P : BS → Nat → Prop) : List AV → BS → Nat → Prop
 | [], β, ν => P β ν
 | t :: ts, β, ν => Cd Γ 42 (.ref 695) [.ref .bld, t] (BH X β ν) (fun v H' => v = .none ∧ ∃ β' ν', H' = BH X β' ν' ∧ FA Γ X P ts β' ν')
theorem aAk {P : BS → Nat → Prop} {a b : List AV} : FA Γ X P (a ++ b) = FA Γ X (FA Γ X P b) a := by
 induction a with
 | nil => rfl
 | cons t a ih => funext β ν; simp only [List.cons_append, FA, ih]
theorem faq {P : BS → Nat → Prop} {β' : BS} {ν' : Nat} (h : P β' ν') : AV.none = AV.none ∧ ∃ β ν, BH X β' ν' = BH X β ν ∧ P β ν := ⟨rfl, _, _, rfl, h⟩
structure Cor (s : LS) (σ : Sp) : Prop where
 ts : σ.ts = s.ts
 outs : σ.outs = s.outs
 es : σ.es = s.es
 L : σ.L = s.ow
 fo : σ.fo = decide (0 < s.forms)
structure Gs (M : Str) (fM : Addr) (f0 : Fm) (R0 : List Fm) (bd0 : Fm) : Prop where
 md : Md M fM
 sk : Sk f0 R0 bd0
 n0 : f0.nxt = []
 pr : ∀ k ∈ f0 :: (R0 ++ [bd0]), k.par = 1 ∨ ∃ z ∈ f0 :: (R0 ++ [bd0]), k.par = z.id
 np : f0.nm ≠ oS "p"
section
variable {P : BS → Nat → Prop} {M : Str} {fM : Addr} {f0 : Fm} {R0 : List Fm} {bd0 : Fm} {m : Nat} {σ : Sp} {g : Option (List Str)} {s : LS}
theorem Cor.read {x : Str} (c : Cor s σ) : Cor (read1 s x) (getE σ x) := by
 by_cases h : x = sNul
 ·rw [getE, if_pos h]
  exact ⟨c.ts, c.outs, by show σ.es ++ [eNul] = (if x = sNul then s.es ++ [eNul] else s.es); rw [if_pos h, c.es], c.L, c.fo⟩
 ·rw [getE, if_neg h]
  exact ⟨c.ts, c.outs, by show σ.es = (if x = sNul then s.es ++ [eNul] else s.es); rw [if_neg h, c.es], c.L, c.fo⟩
theorem aTf : okSigns [] := ⟨by simp, fun x hx => nomatch hx⟩
theorem aDy (gs : Gs M fM f0 R0 bd0) : ∀ (l : List Str) {s : LS} {σ : Sp} {g : Option (List Str)} {m : Nat} {β : BS} {ν : Nat}, Gp β M fM f0 R0 bd0 m σ g → Cor s σ → s.run = g.getD [] → s.run.length + l.length ≤ 16 → (∀ x ∈ l, x.length = 1) → m + 2 * l.length ≤ 60000 →
  (∀ β' ν' σ' g', Gp β' M fM f0 R0 bd0 (m + 2 * l.length) σ' g' → Cor (readS s l) σ' → (readS s l).run = g'.getD [] → P β' ν') → FA Γ X P (chL l) β ν
 | [], s, σ, g, m, β, ν, gp, c, r, _, _, _, h => h _ _ _ _ gp c r
 | x :: l, s, σ, g, m, β, ν, gp, c, r, h1, h2, h3, h => by
  have x1 := h2 x (.head _)
  rw [List.length_cons] at h1 h3
  have okg : okSigns (g.getD []) := by
   cases hg : g with
   | none => exact aTf
   | some q => exact gp.ok q hg
  refine aUs gp fun β' ν' G' => faq (aDy gs l (s := read1 s x) ⟨gs.md, gs.sk, G', fun q e => ?_, by exact zn [m, l.length] (.h 1 (.a (.v 0) (.m 2 (.a (.v 1) (.n 1)))) (.n 60000) .e) (.a (.v 0) (.n 2)) (.n 60000) rfl h3⟩ c.read ?_ ?_ (fun y hy => h2 y (.tail _ hy)) (by exact oz151 h3) fun β2 ν2 σ2 g2 gp2 c2 r2 => ?_)
  ·have e := Option.some.inj (show some (g.getD [] ++ (if x = sNul then [] else [x])) = some q from e)
   subst e
   refine aP1 okg ?_ ?_
   ·split
    ·exact aTf
    ·rename_i hx
     refine ⟨by simp, fun y hy => ?_⟩
     rw [List.mem_singleton.mp hy]
     exact ⟨by omega, hx⟩
   ·rw [r] at h1
    split <;> simp only [List.length_nil, List.length_cons] <;> (first | exact oz152 h1 | exact oz153 h1 | omega)
  ·show (if x = sNul then s.run else s.run ++ [x]) = g.getD [] ++ (if x = sNul then [] else [x])
   rw [r]
   split <;> simp
  ·show (if x = sNul then s.run else s.run ++ [x]).length + _ ≤ _
   split
   ·exact zn [s.run.length, l.length] (.h 1 (.a (.v 0) (.a (.v 1) (.n 1))) (.n 16) .e) (.a (.v 0) (.v 1)) (.n 16) rfl h1
   ·rw [List.length_append]; simp only [List.length_cons, List.length_nil]; exact zn [s.run.length, l.length] (.h 1 (.a (.v 0) (.a (.v 1) (.n 1))) (.n 16) .e) (.a (.a (.v 0) (.a (.n 0) (.n 1))) (.v 1)) (.n 16) rfl h1
  ·refine h β2 ν2 σ2 g2 ⟨gp2.md, gp2.sk, gp2.G |> fun G => ?_, gp2.ok, ?_⟩ c2 r2
   ·rw [List.length_cons, show m + 2 * (l.length + 1) = m + 2 + 2 * l.length by exact oz156]; exact G
   ·rw [List.length_cons]; omega
theorem Cor.settle (c : Cor s σ) (r : s.run = g.getD []) : Cor (settleS s) (flushS σ g) := by
 cases g with
 | none =>
  have r : s.run = [] := r
  rw [settleS, if_pos (by rw [r]; rfl), r]
  exact ⟨c.ts, c.outs, c.es, c.L, c.fo⟩
 | some l =>
  have r : s.run = l := r
  unfold settleS flushS
  rw [r]
  by_cases hb : l.all blankC = true
  ·rw [if_pos hb]; simp only [hb, if_true]
   exact ⟨by show l.foldl putT σ.ts = _; rw [c.ts], c.outs, c.es, c.L, c.fo⟩
  ·rw [if_neg hb]; simp only [hb]
   exact ⟨c.ts, by show l.foldl putT σ.outs = _; rw [c.outs], by show σ.es ++ _ = _; rw [c.es], c.L, c.fo⟩
noncomputable def thToks (s : LS) : Thing → List AV
 | .comment x => [.tup [.str "comment", .str x]]
 | .hidden x => [startTok sInput (pairsS s [(oS "type", x)]) true]
 | .form cl => [startTok (oS "form") (pairsS s []) cl]
 | .head nm => [startTok nm (pairsS s []) false]
 | .endT => [endTok (oS "template")]
 | .endErr nm => [endTok nm]
 | .doctype => [.tup [.str "doctype", .str "html", .none, .none, .bool false]]
 | .input at_ => [startTok sInput (pairsS s at_) true]
 | .br => [startTok (oS "br") (pairsS s []) true]
 | .endP => [endTok (oS "p")]
 | .b l => [startTok sB (pairsS s []) false] ++ (chL l ++ [endTok sB])
theorem aBi {kk : KK} {nm : Str} {at_ : List (Str × Str)} {cl : Bool} : (startS s kk nm at_ cl).toks = s.toks ++ [startTok nm (pairsS s at_) cl] := by
 unfold startS
 cases kk <;> (simp only []; split <;> rfl)
theorem aJ5 {kk : KK} {nm : Str} {at_ : List (Str × Str)} {cl : Bool} (h : nm ≠ sInput) : startS s kk nm at_ cl = kk.add { s with toks := s.toks ++ [startTok nm (pairsS s at_) cl] } (.el nm (pairsS s at_) []) := if_neg fun q => h q.1
theorem aKn {t : Thing} : (thingS M s t).toks = s.toks ++ thToks s t := by
 cases t with
 | hidden x => exact aBi
 | form cl => exact aBi
 | head nm => exact aBi
 | input at_ => exact aBi
 | br => exact aBi
 | b l => show s.toks ++ _ ++ _ ++ _ = _; simp [thToks, chL]
 | _ => rfl
def ThOk : Thing → Prop
 | .comment x => x.length ≤ 2
 | .hidden x => x ∈ typesL
 | .head nm => nm ∈ headsL
 | .endErr nm => nm ∈ endsL
 | .input at_ => at_ ∈ atsL
 | .b l => l.length ≤ 4 ∧ ∀ x ∈ l, x.length = 1
 | _ => True
theorem aG8 {sort rest : Int} (h : 0 < sort ∧ sort < 12) : ThOk (thingOf sort rest) := by
 unfold thingOf
 by_cases h8 : sort < 8
 ·rw [if_pos h8]
  have : sort = 1 ∨ sort = 2 ∨ sort = 3 ∨ sort = 4 ∨ sort = 5 ∨ sort = 6 ∨ sort = 7 := by exact oz157 h h8
  rcases this with rfl | rfl | rfl | rfl | rfl | rfl | rfl
  ·exact aT6
  ·exact aBq (fmodR rest 3 (by decide)).1 (fmodR rest 3 (by decide)).2
  ·exact trivial
  ·exact aBq (fmodR rest 3 (by decide)).1 (fmodR rest 3 (by decide)).2
  ·exact trivial
  ·exact aBq (fmodR rest 9 (by decide)).1 (fmodR rest 9 (by decide)).2
  ·exact trivial
 ·rw [if_neg h8]
  have : sort = 8 ∨ sort = 9 ∨ sort = 10 ∨ sort = 11 := by exact oz158 h h8
  rcases this with rfl | rfl | rfl | rfl
  ·show pickA (rest.fmod 4) ∈ atsL
   obtain ⟨f0, f1⟩ := fmodR rest 4 (by decide)
   have h : (rest.fmod 4).toNat < atsL.length := by show _ < 4; exact oz159 f0 f1
   rw [pickA, List.getElem?_eq_getElem h]
   exact List.getElem_mem h
  ·exact trivial
  ·exact trivial
  ·exact ⟨aC0, aCp⟩
theorem Gp.of {ν' : Nat} (gs : Gs M fM f0 R0 bd0) (R : Rest β M f0 R0 bd0 m σ) (hm : m ≤ 60000) : Gp β M fM f0 R0 bd0 m σ none := ⟨gs.md, gs.sk, R, fun l e => (nomatch e), hm⟩
theorem Rest.more {m' : Nat} (R : Rest β M f0 R0 bd0 m σ) (h : m ≤ m') : Rest β M f0 R0 bd0 m' σ := by
 obtain ⟨ids, idb, D⟩ := R.D
 exact ⟨⟨ids, idb, D.mono h⟩, R.es, R.fo, R.mode, R.foster, R.pend⟩
theorem aGi {at_ : List (Str × Str)} (h : ∀ q ∈ at_, q.1 ≠ oS "form") (hl : at_.length ≤ 10) : AtOk (pairsS s at_) := by
 refine ⟨fun q hq => ?_, by rw [pairsS, List.length_cons]; omega⟩
 rcases List.mem_cons.mp hq with rfl | hq
 ·show oS "at" ≠ oS "form"; decide +kernel
 ·exact h q hq
theorem ao0 : AtOk (pairsS s []) := aGi (fun q hq => nomatch hq) (by simp)
theorem aNx : decide (oS "at" = oS "type") = false := by decide +kernel
theorem aJ7 {x : Str} {r : List (Str × Str)} : valA (pairsS s ((oS "type", x) :: r)) (oS "type") = .str x := by
 unfold valA pairsS
 rw [List.find?_cons_of_neg (by simpa using of_decide_eq_false aNx), List.find?_cons_of_pos (by simp)]
theorem aPb : valA (pairsS s []) (oS "type") = .none := by
 unfold valA pairsS
 rw [List.find?_cons_of_neg (by simpa using of_decide_eq_false aNx)]; rfl
variable (gs : Gs M fM f0 R0 bd0) (gp : Gp β M fM f0 R0 bd0 m σ g) (c : Cor s (flushS σ g))
include gs gp c
theorem aMj {x : Str} (hx : x.length ≤ 2) (h : ∀ β' ν' σ', Rest β' M f0 R0 bd0 (m + 200) σ' → Cor (thingS M s (.comment x)) σ' → P β' ν') : FA Γ X P (thToks s (.comment x)) β ν :=
 aMl gp hx fun β' ν' R => faq (h β' ν' _ (R.more (by omega)) ⟨by show (flushS σ g).ts ++ _ = s.ts ++ _; rw [c.ts], c.outs, c.es, c.L, c.fo⟩)
theorem aOi {x : Str} (hx : x ∈ typesL) (h : ∀ β' ν' σ', Rest β' M f0 R0 bd0 (m + 200) σ' → Cor (thingS M s (.hidden x)) σ' → P β' ν') : FA Γ X P (thToks s (.hidden x)) β ν := by
 have k : ∀ x ∈ typesL, (x.cps.toList.all (fun c => decide (c ≤ 127)) = true ∧ x.cps.toList.length ≤ 1000) ∧ lowT x = oS "hidden" := by decide +kernel
 obtain ⟨⟨k1, k2⟩, k3⟩ := k x hx
 have ao : AtOk (pairsS s [(oS "type", x)]) := aGi (fun q hq => by rw [List.mem_singleton.mp hq]; show oS "type" ≠ oS "form"; decide +kernel) (by simp)
 refine aOl gp ao aJ7 k1 k2 k3 fun β' ν' R => faq (h β' ν' _ (R.more (by omega)) ?_)
 show Cor (startS { s with es := s.es ++ [eTag M] } .inn sInput [(oS "type", x)] true) _
 unfold startS
 by_cases f : 0 < s.forms
 ·rw [if_pos ⟨rfl, f⟩]
  refine ⟨?_, c.outs, ?_, ?_, c.fo⟩
  ·show (flushS σ g).ts ++ _ = s.ts ++ _; rw [c.ts]; rfl
  ·show (flushS σ g).es ++ _ = s.es ++ _; rw [c.es]
  ·show (flushS σ g).L ++ spL _ _ = s.ow ++ _; rw [c.L, c.fo, decide_eq_true f]; rfl
 ·rw [if_neg fun q => f q.2]
  refine ⟨?_, c.outs, ?_, ?_, c.fo⟩
  ·show (flushS σ g).ts ++ _ = s.ts ++ _; rw [c.ts]; rfl
  ·show (flushS σ g).es ++ _ = s.es ++ _; rw [c.es]
  ·show (flushS σ g).L ++ spL _ _ = s.ow; rw [c.L, c.fo, decide_eq_false f]; simp [spL]
theorem aUp {cl : Bool} (h : ∀ β' ν' σ', Rest β' M f0 R0 bd0 (m + 200) σ' → Cor (thingS M s (.form cl)) σ' → P β' ν') : FA Γ X P (thToks s (.form cl)) β ν := by
 refine aUu gp ao0 fun β' ν' R => faq (h β' ν' _ (R.more (by omega)) ?_)
 have no : ∀ {kk : KK}, startS { s with es := s.es ++ [eTag M] } kk (oS "form") [] cl = kk.add { s with es := s.es ++ [eTag M], toks := s.toks ++ [startTok (oS "form") (pairsS s []) cl] } (.el (oS "form") (pairsS s []) []) := fun {kk} => aJ5 (by decide +kernel)
 have es : ∀ l : LS, l.es = s.es ++ [eTag M] → (flushS σ g).es ++ [eTag M] ++ (if cl = true then [eSol M] else []) = if cl = true then l.es ++ [eSol M] else l.es := fun l e => by
  rw [e, c.es]; cases cl <;> simp
 by_cases f : s.forms = 0
 ·have fo : (flushS σ g).fo = false := by rw [c.fo]; exact decide_eq_false (by exact fun e => (zff (zn [s.forms] (.h 1 (.v 0) (.n 0) (.h 1 (.a (.n 0) (.n 1)) (.v 0) .e)) (.n 1) (.n 0) rfl (Nat.le_of_eq f) e)))
  have e : thingS M s (.form cl) = (let s1 := startS { s with es := s.es ++ [eTag M] } .inn (oS "form") [] cl; { s1 with forms := s1.forms + 1, es := if cl = true then s1.es ++ [eSol M] else s1.es }) := by
   simp only [thingS, if_pos f]
  rw [e, no]
  refine ⟨?_, c.outs, es _ rfl, c.L, ?_⟩
  ·show (if (flushS σ g).fo then _ else _) = s.ts ++ _; rw [fo, c.ts]; rfl
  ·show true = decide (0 < s.forms + 1); simp
 ·have fo : (flushS σ g).fo = true := by rw [c.fo]; exact decide_eq_true (by exact Nat.lt_of_le_of_ne (zn [s.forms] .e (.n 0) (.v 0) rfl) (Ne.symm f))
  have e : thingS M s (.form cl) = (let s1 := startS { s with es := s.es ++ [eTag M] } (.drop 0) (oS "form") [] cl; { s1 with forms := s1.forms + 1, es := if cl = true then s1.es ++ [eSol M] else s1.es }) := by
   simp only [thingS, if_neg f]
  rw [e, no]
  refine ⟨?_, c.outs, es _ rfl, c.L, ?_⟩
  ·show (if (flushS σ g).fo then _ else _) = s.ts; rw [fo, c.ts]; rfl
  ·show true = decide (0 < s.forms + 1); simp
theorem aUq {nm : Str} (hx : nm ∈ headsL) (h : ∀ β' ν' σ', Rest β' M f0 R0 bd0 (m + 200) σ' → Cor (thingS M s (.head nm)) σ' → P β' ν') : FA Γ X P (thToks s (.head nm)) β ν := by
 have k : ∀ nm ∈ headsL, (nm ≠ oS "tr" ∧ [AV.str "caption", .str "colgroup", .str "col", .str "tbody", .str "tfoot", .str "thead", .str "td", .str "th", .str "tr"].any (isStr nm) = false) ∧ (nm ≠ oS "table" ∧
  [AV.str "style", .str "script", .str "template"].any (isStr nm) = true) ∧ owns.any (isStr nm) = false ∧ nm ≠ sInput := by decide +kernel
 obtain ⟨⟨k1, k2⟩, ⟨k3, k4⟩, k5, k6⟩ := k nm hx
 refine aUv gp ao0 k1 k2 k3 k4 k5 k6 fun β' ν' R => faq (h β' ν' _ (R.more (by omega)) ?_)
 show Cor (startS s .inn nm [] false) _
 rw [show startS s .inn nm [] false = KK.add { s with toks := s.toks ++ [startTok nm (pairsS s []) false] } (.el nm (pairsS s []) []) .inn from if_neg fun q => k6 q.1]
 exact ⟨by show (flushS σ g).ts ++ _ = s.ts ++ _; rw [c.ts], c.outs, c.es, c.L, c.fo⟩
theorem aUo (h : ∀ β' ν' σ', Rest β' M f0 R0 bd0 (m + 200) σ' → Cor (thingS M s .endT) σ' → P β' ν') : FA Γ X P (thToks s .endT) β ν :=
 aFd gp fun β' ν' R => faq (h β' ν' _ (R.more (by omega)) ⟨c.ts, c.outs, by show (flushS σ g).es ++ _ = s.es ++ _; rw [c.es], c.L, c.fo⟩)
theorem aOh {nm : Str} (hx : nm ∈ endsL) (h : ∀ β' ν' σ', Rest β' M f0 R0 bd0 (m + 200) σ' → Cor (thingS M s (.endErr nm)) σ' → P β' ν') : FA Γ X P (thToks s (.endErr nm)) β ν := by
 have k : ∀ nm ∈ endsL, (nm ≠ oS "table" ∧ nm ≠ oS "template") ∧ endErrs.any (isStr nm) = true ∧ [AV.str "tbody", .str "tr"].any (isStr nm) = false := by decide +kernel
 obtain ⟨⟨k1, k2⟩, k3, k4⟩ := k nm hx
 exact aOk gp k1 k2 k3 k4 fun β' ν' R => faq (h β' ν' _ (R.more (by omega)) ⟨c.ts, c.outs, by show (flushS σ g).es ++ _ = s.es ++ _; rw [c.es], c.L, c.fo⟩)
theorem aMk (h : ∀ β' ν' σ', Rest β' M f0 R0 bd0 (m + 200) σ' → Cor (thingS M s .doctype) σ' → P β' ν') : FA Γ X P (thToks s .doctype) β ν :=
 aMm gp fun β' ν' R => faq (h β' ν' _ (R.more (by omega)) ⟨c.ts, c.outs, by show (flushS σ g).es ++ _ = s.es ++ _; rw [c.es], c.L, c.fo⟩)
theorem aUn (h : ∀ β' ν' σ', Rest β' M f0 R0 bd0 (m + 200) σ' → Cor (thingS M s .endP) σ' → P β' ν') : FA Γ X P (thToks s .endP) β ν :=
 aUt gp gs.np fun β' ν' R => faq (h β' ν' _ (R.more (by omega)) ⟨c.ts, c.outs, by show (flushS σ g).es ++ _ = s.es ++ _; rw [c.es], c.L, c.fo⟩)
theorem aZp (h : ∀ β' ν' σ', Rest β' M f0 R0 bd0 (m + 200) σ' → Cor (thingS M s .br) σ' → P β' ν') : FA Γ X P (thToks s .br) β ν := by
 have ne : oS "br" ≠ sInput := by decide +kernel
 refine aT9 gp ao0 (.inr (by decide +kernel)) (by decide +kernel) (by decide +kernel) (fun β' ν' Q' hh => aA4 (d' := 11) (aAr (n := 10) (aA4 (d' := 10) (aIc (n := 9) (by decide +kernel) (by decide +kernel) (by decide +kernel) (by decide +kernel) (by decide +kernel) (hh ν').dup.dup) rfl)) rfl) fun β' ν' R => faq (h β' ν' _ (R.more (by omega)) ?_)
 show Cor (startS { s with es := s.es ++ [eFos M] } .out (oS "br") [] true) _
 rw [show startS { s with es := s.es ++ [eFos M] } .out (oS "br") [] true = KK.add { s with es := s.es ++ [eFos M], toks := s.toks ++ [startTok (oS "br") (pairsS s []) true] } (.el (oS "br") (pairsS s []) []) .out from aJ5 ne]
 exact ⟨c.ts, by show (flushS σ g).outs ++ _ = s.outs ++ _; rw [c.outs], by show (flushS σ g).es ++ _ = s.es ++ _; rw [c.es], by show (flushS σ g).L ++ (if _ then _ else _) = s.ow; rw [if_neg ne, c.L, List.append_nil], c.fo⟩
theorem aQm {at_ : List (Str × Str)} (hx : at_ ∈ atsL) (h : ∀ β' ν' σ', Rest β' M f0 R0 bd0 (m + 200) σ' → Cor (thingS M s (.input at_)) σ' → P β' ν') : FA Γ X P (thToks s (.input at_)) β ν := by
 have k1 : ∀ a ∈ atsL, (∀ q ∈ a, q.1 ≠ oS "form") ∧ a.length ≤ 10 := by decide +kernel
 obtain ⟨k1, k2⟩ := k1 at_ hx
 have way : ∀ (β' : BS) (ν' : Nat) (Q' : AV → AH → Prop), (∀ ν2, Cl Γ 9 (.ref 314) [.ref .bld, startTok sInput (pairsS s at_) true] (BH X β' ν2) (Ret0 Q')) → Cl Γ 16 (.ref 377) [.ref .bld, startTok sInput (pairsS s at_) true] (BH X β' ν') (Ret0 Q') := fun β' ν' Q' hh => by
  have inp : Cd Γ 10 (.ref 342) [.ref .bld, startTok sInput (pairsS s at_) true] (BH X β' ν') (Ret0 (Ret0 (Ret0 Q'))) := by
   have hh3 : ∀ ν2, Cl Γ 9 (.ref 314) [.ref .bld, startTok sInput (pairsS s at_) true] (BH X β' ν2) (Ret0 (Ret0 (Ret0 (Ret0 Q')))) := fun ν2 => (hh ν2).dup.dup.dup
   have : at_ = [] ∨ ∃ x, at_ = [(oS "type", x)] ∧ x ∈ [oS "text", oS "", oS "hidden "] := by
    simp only [atsL, List.mem_cons, List.not_mem_nil, or_false] at hx
    rcases hx with e | e | e | e
    ·exact .inl e
    ·exact .inr ⟨_, e, .head _⟩
    ·exact .inr ⟨_, e, .tail _ (.head _)⟩
    ·exact .inr ⟨_, e, .tail _ (.tail _ (.head _))⟩
   rcases this with rfl | ⟨x, rfl, hm⟩
   ·exact aGn (n := 8) aPb (hh3 _)
   ·have kk : ∀ x ∈ [oS "text", oS "", oS "hidden "], (x.cps.toList.all (fun c => decide (c ≤ 127)) = true ∧ x.cps.toList.length ≤ 1000) ∧ lowT x ≠ oS "hidden" := by decide +kernel
    obtain ⟨⟨q1, q2⟩, q3⟩ := kk x hm
    exact aF9 (n := 6) aJ7 q1 q2 q3 fun ν2 => (hh3 ν2)
  exact aA4 (d' := 12) (aAr (n := 11) (aA4 (d' := 11) (aEj (n := 10) (aA4 (d' := 10) inp rfl)) rfl)) rfl
 refine aT9 gp (aGi k1 k2) (.inl rfl) (by decide +kernel) (by decide +kernel) way fun β' ν' R => faq (h β' ν' _ (R.more (by omega)) ?_)
 show Cor (startS { s with es := s.es ++ [eFos M] } .out sInput at_ true) _
 unfold startS
 by_cases f : 0 < s.forms
 ·rw [if_pos ⟨rfl, f⟩]
  refine ⟨c.ts, ?_, ?_, ?_, c.fo⟩
  ·show (flushS σ g).outs ++ _ = s.outs ++ _; rw [c.outs]; rfl
  ·show (flushS σ g).es ++ _ = s.es ++ _; rw [c.es]
  ·show (flushS σ g).L ++ (if _ then spL _ _ else _) = s.ow ++ _; rw [if_pos rfl, c.L, c.fo, decide_eq_true f]; rfl
 ·rw [if_neg fun q => f q.2]
  refine ⟨c.ts, ?_, ?_, ?_, c.fo⟩
  ·show (flushS σ g).outs ++ _ = s.outs ++ _; rw [c.outs]; rfl
  ·show (flushS σ g).es ++ _ = s.es ++ _; rw [c.es]
  ·show (flushS σ g).L ++ (if _ then spL _ _ else _) = s.ow; rw [if_pos rfl, c.L, c.fo, decide_eq_false f]; simp [spL]
end
section
variable {P : BS → Nat → Prop} {M : Str} {fM : Addr} {f0 : Fm} {R0 : List Fm} {bd0 : Fm} {m : Nat} {σ : Sp} {g : Option (List Str)} {s : LS}
theorem aIj {at_ : List (Str × Str)} (md : Md M fM) : ∀ (l : List Str) {σ : Sp} {m : Nat} {tb : List Tr} {β : BS} {ν : Nat}, BOp β M f0 R0 bd0 m σ at_ tb → m + 4 * l.length ≤ 70000 → (∀ x ∈ l, x.length = 1) →
  (∀ β' ν', BOp β' M f0 R0 bd0 (m + 4 * l.length) { σ with es := σ.es ++ l.map fun _ => eFos M } at_ (l.foldl putN tb) → P β' ν') → FA Γ X P (chL l) β ν
 | [], σ, m, tb, β, ν, r, _, _, h => h β ν (by
   have e : ({ σ with es := σ.es ++ ([] : List Str).map fun _ => eFos M } : Sp) = σ := by rw [List.map_nil, List.append_nil]
   rw [e]; exact r)
 | x :: l, σ, m, tb, β, ν, r, h1, h2, h => by
  rw [List.length_cons] at h1
  have x1 := h2 x (.head _)
  refine aQo md r (by exact zn [m, l.length] (.h 1 (.a (.v 0) (.m 4 (.a (.v 1) (.n 1)))) (.n 70000) .e) (.v 0) (.n 70000) rfl h1) (by omega) fun β' ν' B => faq (aIj md l (tb := putN tb x) B (by exact zn [m, l.length] (.h 1 (.a (.v 0) (.m 4 (.a (.v 1) (.n 1)))) (.n 70000) .e) (.a (.a (.v 0) (.n 4)) (.m 4 (.v 1))) (.n 70000) rfl h1) (fun y hy => h2 y (.tail _ hy)) fun β2 ν2 B2 => h β2 ν2 ?_)
  have e : ({ { σ with es := σ.es ++ [eFos M] } with es := ({ σ with es := σ.es ++ [eFos M] } : Sp).es ++ l.map fun _ => eFos M } : Sp) = { σ with es := σ.es ++ (x :: l).map fun _ => eFos M } := by
   show ({ σ with es := (σ.es ++ [eFos M]) ++ _ } : Sp) = _
   rw [List.append_assoc]; rfl
  rw [e] at B2
  rw [List.length_cons, show m + 4 * (l.length + 1) = m + 4 + 4 * l.length by exact oz164]
  exact B2
theorem bA7 (gs : Gs M fM f0 R0 bd0) (gp : Gp β M fM f0 R0 bd0 m σ g) (c : Cor s (flushS σ g)) {l : List Str} (hl : l.length ≤ 4 ∧ ∀ x ∈ l, x.length = 1) (h : ∀ β' ν' σ', Rest β' M f0 R0 bd0 (m + 200) σ' → Cor (thingS M s (.b l)) σ' → P β' ν') : FA Γ X P (thToks s (.b l)) β ν := by
 have hm := gp.hm
 show FA Γ X P ([startTok sB (pairsS s []) false] ++ (chL l ++ [endTok sB])) β ν
 rw [aAk, aAk]
 refine aOj gp ao0 fun β' ν' B => faq (aIj gs.md l B (by exact oz165 hl hm) hl.2 fun β2 ν2 B2 => aUr gs.md B2 (by exact oz165 hl hm) gs.n0 gs.pr fun β3 ν3 R => faq (h β3 ν3 _ (R.more (by exact oz166 hl)) ⟨c.ts, ?_, ?_, c.L, c.fo⟩))
 ·show (flushS σ g).outs ++ _ = s.outs ++ _; rw [c.outs]; rfl
 ·show (flushS σ g).es ++ _ ++ _ ++ _ = s.es ++ _ ++ _ ++ _; rw [c.es]
theorem aQn (gs : Gs M fM f0 R0 bd0) (gp : Gp β M fM f0 R0 bd0 m σ g) (c : Cor s (flushS σ g)) {t : Thing} (ht : ThOk t) (h : ∀ β' ν' σ', Rest β' M f0 R0 bd0 (m + 200) σ' → Cor (thingS M s t) σ' → P β' ν') : FA Γ X P (thToks s t) β ν := by
 cases t with
 | comment x => exact aMj gs gp c ht h
 | hidden x => exact aOi gs gp c ht h
 | form cl => exact aUp gs gp c h
 | head nm => exact aUq gs gp c ht h
 | endT => exact aUo gs gp c h
 | endErr nm => exact aOh gs gp c ht h
 | doctype => exact aMk gs gp c h
 | input at_ => exact aQm gs gp c ht h
 | br => exact aZp gs gp c h
 | endP => exact aUn gs gp c h
 | b l => exact bA7 gs gp c ht h
theorem Gth.more {m' : Nat} (G : Gth β M f0 R0 bd0 m σ g) (h : m ≤ m') : Gth β M f0 R0 bd0 m' σ g := by
 cases g with
 | none => exact Rest.more G h
 | some l =>
  obtain ⟨ids, idb, D⟩ := InTx.D G
  exact ⟨⟨ids, idb, D.mono h⟩, InTx.es G, InTx.fo G, InTx.mode G, InTx.orig G, InTx.foster G, InTx.pend G⟩
noncomputable def gapToks (s : LS) (l1 : List Str) (number : Int) (l2 : List Str) : List AV := chL l1 ++ ((if 0 < number.fmod 12 then thToks (settleS (readS s l1)) (thingOf (number.fmod 12) (number.fdiv 12)) else []) ++ chL l2)
theorem aCn : ∀ (l : List Str) (s : LS), (readS s l).toks = s.toks ++ chL l
 | [], s => by rw [readS]; simp [chL]
 | x :: l, s => by
  show (readS (read1 s x) l).toks = _
  rw [aCn l]
  show (s.toks ++ [chTok x]) ++ chL l = _
  rw [List.append_assoc]; rfl
theorem aDu {s : LS} : (settleS s).toks = s.toks := by
 unfold settleS; split <;> rfl
theorem aOs {l1 l2 : List Str} {number : Int} : (gapS M s l1 number l2).toks = s.toks ++ gapToks s l1 number l2 := by
 rw [gapS, aDu, aCn, midS, gapToks]
 by_cases h : 0 < number.fmod 12
 ·rw [if_pos h, if_pos h, aKn, aDu, aCn]; simp only [List.append_assoc]
 ·rw [if_neg h, if_neg h, aCn]; simp only [List.append_assoc, List.nil_append]
theorem aIk (gs : Gs M fM f0 R0 bd0) (R : Rest β M f0 R0 bd0 m σ) (c : Cor s σ) (hr : s.run = []) (hm : m ≤ 50000) {l1 l2 : List Str} {number : Int} (h1 : l1.length ≤ 4 ∧ ∀ x ∈ l1, x.length = 1) (h2 : l2.length ≤ 4 ∧ ∀ x ∈ l2, x.length = 1)
  (h : ∀ β' ν' σ' g', Gp β' M fM f0 R0 bd0 (m + 400) σ' g' → Cor (gapS M s l1 number l2) (flushS σ' g') → P β' ν') : FA Γ X P (gapToks s l1 number l2) β ν := by
 rw [gapToks, aAk, aAk]
 refine aDy gs l1 (Gp.of (ν' := 0) gs R (by omega)) c hr (by rw [hr, List.length_nil]; exact oz167 h1) h1.2 (by exact oz168 hm h1) fun β1 ν1 σ1 g1 gp1 c1 r1 => ?_
 have rl : (readS s l1).run.length ≤ 4 := by
  rw [aDf, hr, List.nil_append]; exact Nat.le_trans aHa h1.1
 by_cases hn : 0 < number.fmod 12
 ·rw [if_pos hn]
  refine aQn (m := m + 2 * l1.length) gs gp1 (c1.settle r1) (aG8 ⟨hn, (fmodR number 12 (by decide)).2⟩) fun β2 ν2 σ2 R2 c2 => ?_
  refine aDy gs l2 (Gp.of (ν' := 0) gs R2 (by exact oz169 hm h1)) c2 (by rw [aDp, aBz]; rfl) (by rw [aDp, aBz, List.length_nil]; exact oz167 h2) h2.2 (by exact oz170 hm h1 h2) fun β3 ν3 σ3 g3 gp3 c3 r3 => h β3 ν3 σ3 g3 ⟨gp3.md, gp3.sk, ?_, gp3.ok, by omega⟩ ?_
  ·exact gp3.G.more (by exact oz171 h1 h2)
  ·rw [gapS, midS, if_pos hn]; exact c3.settle r3
 ·rw [if_neg hn]
  refine aDy gs l2 gp1 c1 r1 (by exact oz172 h2 rl) h2.2 (by exact oz173 hm h1 h2) fun β3 ν3 σ3 g3 gp3 c3 r3 => h β3 ν3 σ3 g3 ⟨gp3.md, gp3.sk, ?_, gp3.ok, by omega⟩ ?_
  ·exact gp3.G.more (by exact oz174 h1 h2)
  ·rw [gapS, midS, if_neg hn]; exact c3.settle r3
end
section
variable {fT fB fR tg bg bd : Fm}
theorem aIn : isPart sTable = true := by decide +kernel
theorem aIo : isPart sTbody = true := by decide +kernel
theorem aOx : isPart sTr = true := by decide +kernel
theorem aP6 : signNames.any (isStr sTable) = true := by decide +kernel
theorem aP7 : signNames.any (isStr sTbody) = true := by decide +kernel
theorem aZ3 : signNames.any (isStr sTr) = true := by decide +kernel
noncomputable abbrev sBody : Str := oS "body"
theorem gs1 (h1 : fT.nm = sTable) (h2 : fT.par = bd.id) (h3 : bd.nxt = [fT.id]) (h4 : bd.nm = sBody) (h5 : bd.par = 1) (h6 : fT.nxt = []) : Gs (oS "in table") 377 fT [] bd := by
 refine ⟨aQy, ⟨fun ids ts idb tsb => ⟨[], fmT fT ids ts, ⟨rfl, h1, h2, h3, fun q hq => nomatch hq⟩⟩, by rw [h1]; exact aIn, fun q hq => ?_, by simp, by rw [h1]; exact aP6⟩, h6, fun k hk => ?_, by rw [h1]; decide +kernel⟩
 ·simp only [List.nil_append, List.mem_cons, List.not_mem_nil, or_false] at hq
  rcases hq with rfl | rfl
  ·rw [h1]; decide +kernel
  ·rw [h4]; decide +kernel
 ·simp only [List.nil_append, List.mem_cons, List.not_mem_nil, or_false] at hk
  rcases hk with rfl | rfl
  ·exact .inr ⟨bd, by simp, h2⟩
  ·exact .inl h5
theorem gs2 (h1 : tg.nm = sTable) (h2 : tg.par = bd.id) (h3 : bd.nxt = [tg.id]) (h4 : bd.nm = sBody) (h5 : bd.par = 1) (h6 : fB.nm = sTbody) (h7 : fB.par = tg.id) (h8 : fB.nxt = []) : Gs (oS "in table body") 759 fB [tg] bd := by
 refine ⟨aQz, ⟨fun ids ts idb tsb => ⟨[fmT fB ids ts], tg, ⟨rfl, h1, h2, h3, fun q hq => ?_⟩⟩, by rw [h6]; exact aIo, fun q hq => ?_, by simp, by rw [h6]; exact aP7⟩, h8, fun k hk => ?_, by rw [h6]; decide +kernel⟩
 ·rw [List.mem_singleton.mp hq]
  show fB.nm ≠ _ ∧ fB.nm ≠ _
  rw [h6]; exact ⟨by decide +kernel, by decide +kernel⟩
 ·simp only [List.cons_append, List.nil_append, List.mem_cons, List.not_mem_nil, or_false] at hq
  rcases hq with rfl | rfl | rfl
  ·rw [h6]; decide +kernel
  ·rw [h1]; decide +kernel
  ·rw [h4]; decide +kernel
 ·simp only [List.cons_append, List.nil_append, List.mem_cons, List.not_mem_nil, or_false] at hk
  rcases hk with rfl | rfl | rfl
  ·exact .inr ⟨tg, by simp, h7⟩
  ·exact .inr ⟨bd, by simp, h2⟩
  ·exact .inl h5
theorem gs3 (h1 : tg.nm = sTable) (h2 : tg.par = bd.id) (h3 : bd.nxt = [tg.id]) (h4 : bd.nm = sBody) (h5 : bd.par = 1) (h6 : bg.nm = sTbody) (h7 : bg.par = tg.id) (h8 : fR.nm = sTr) (h9 : fR.par = bg.id) (h10 : fR.nxt = []) : Gs (oS "in row") 759 fR [bg, tg] bd := by
 refine ⟨aY6, ⟨fun ids ts idb tsb => ⟨[fmT fR ids ts, bg], tg, ⟨rfl, h1, h2, h3, fun q hq => ?_⟩⟩, by rw [h8]; exact aOx, fun q hq => ?_, by simp, by rw [h8]; exact aZ3⟩, h10, fun k hk => ?_, by rw [h8]; decide +kernel⟩
 ·simp only [List.mem_cons, List.not_mem_nil, or_false] at hq
  rcases hq with rfl | rfl
  ·show fR.nm ≠ _ ∧ fR.nm ≠ _
   rw [h8]; exact ⟨by decide +kernel, by decide +kernel⟩
  ·rw [h6]; exact ⟨by decide +kernel, by decide +kernel⟩
 ·simp only [List.cons_append, List.nil_append, List.mem_cons, List.not_mem_nil, or_false] at hq
  rcases hq with rfl | rfl | rfl | rfl
  ·rw [h8]; decide +kernel
  ·rw [h6]; decide +kernel
  ·rw [h1]; decide +kernel
  ·rw [h4]; decide +kernel
 ·simp only [List.cons_append, List.nil_append, List.mem_cons, List.not_mem_nil, or_false] at hk
  rcases hk with rfl | rfl | rfl | rfl
  ·exact .inr ⟨bg, by simp, h9⟩
  ·exact .inr ⟨tg, by simp, h7⟩
  ·exact .inr ⟨bd, by simp, h2⟩
  ·exact .inl h5
end
noncomputable abbrev tableTok : AV := .tup [.str "start", .str sTable, .tup [], .bool false]
noncomputable abbrev tbodyTok : AV := .tup [.str "start", .str sTbody, .tup [], .bool false]
noncomputable abbrev trTok : AV := .tup [.str "start", .str sTr, .tup [], .bool false]
noncomputable abbrev eofTok : AV := .tup [.str "eof"]
noncomputable abbrev addT (s : LS) (v : AV) : LS := { s with toks := s.toks ++ [v] }
section
variable (D : Nat → Int)
noncomputable def gpS (M : Str) (k : Nat) (s : LS) : LS := gapS M s (sigL (D k)) (D (k + 1)) (sigL (D (k + 2)))
noncomputable def gT (k : Nat) (s : LS) : List AV := gapToks s (sigL (D k)) (D (k + 1)) (sigL (D (k + 2)))
noncomputable def lw0 : LS := ⟨chL (sigL (D 0)), [], [], (sigL (D 0)).foldl putN [], [], 0, [], []⟩
noncomputable def lw1 : LS := gpS D (oS "in table") 1 (addT (lw0 D) tableTok)
noncomputable def lw2 : LS := gpS D (oS "in table body") 4 { addT (lw1 D) tbodyTok with ts := [] }
noncomputable def lw3 : LS := gpS D (oS "in row") 7 { addT (lw2 D) trTok with ts := [] }
noncomputable def lw4 : LS := gpS D (oS "in table body") 10 { addT (lw3 D) (endTok sTr) with ts := (lw2 D).ts ++ [.el sTr [] (lw3 D).ts], inn := [8] }
noncomputable def lw5 : LS := gpS D (oS "in table") 13 { addT (lw4 D) (endTok sTbody) with ts := (lw1 D).ts ++ [.el sTbody [] (lw4 D).ts], inn := [7, 8] }
end
section
variable {D : Nat → Int} {P : BS → Nat → Prop}
theorem aD8 {M : Str} {k : Nat} {s : LS} : (gpS D M k s).toks = s.toks ++ gT D k s := aOs
theorem aCc {M : Str} {k : Nat} {s : LS} : (gpS D M k s).run = [] := aBz
theorem aQx : (lw5 D).toks = chL (sigL (D 0)) ++ ([tableTok] ++ (gT D 1 (addT (lw0 D) tableTok) ++ ([tbodyTok] ++ (gT D 4 { addT (lw1 D) tbodyTok with ts := [] } ++ ([trTok] ++ (gT D 7 { addT (lw2 D) trTok with ts := [] } ++ ([endTok sTr] ++ (gT D 10 { addT (lw3 D) (endTok sTr) with ts := (lw2 D).ts ++ [.el sTr [] (lw3 D).ts], inn := [8] } ++
  ([endTok sTbody] ++ gT D 13 { addT (lw4 D) (endTok sTbody) with ts := (lw1 D).ts ++ [.el sTbody [] (lw4 D).ts], inn := [7, 8] }))))))))) := by
 have e1 : (lw1 D).toks = chL (sigL (D 0)) ++ [tableTok] ++ gT D 1 (addT (lw0 D) tableTok) := aD8
 have e2 : (lw2 D).toks = (lw1 D).toks ++ [tbodyTok] ++ gT D 4 { addT (lw1 D) tbodyTok with ts := [] } := aD8
 have e3 : (lw3 D).toks = (lw2 D).toks ++ [trTok] ++ gT D 7 { addT (lw2 D) trTok with ts := [] } := aD8
 have e4 : (lw4 D).toks = (lw3 D).toks ++ [endTok sTr] ++ gT D 10 { addT (lw3 D) (endTok sTr) with ts := (lw2 D).ts ++ [.el sTr [] (lw3 D).ts], inn := [8] } := aD8
 have e5 : (lw5 D).toks = (lw4 D).toks ++ [endTok sTbody] ++ gT D 13 { addT (lw4 D) (endTok sTbody) with ts := (lw1 D).ts ++ [.el sTbody [] (lw4 D).ts], inn := [7, 8] } := aD8
 rw [e5, e4, e3, e2, e1]
 simp only [List.append_assoc]
theorem sgs (k : Int) : (sigL k).length ≤ 4 ∧ ∀ x ∈ sigL k, x.length = 1 := ⟨aC0, aCp⟩
theorem aK4 {bd0 : Fm} {es : List (Str × Str)} {L : List (List (Str × Str))} {fo : Bool} : ∀ (l : List Str) {m : Nat} {ts : List Tr} {β : BS} {ν : Nat}, Bdy β bd0 m ts es L fo → m + 2 * l.length ≤ 60000 → (∀ x ∈ l, x.length = 1) →
  (∀ β' ν', Bdy β' bd0 (m + 2 * l.length) (l.foldl putN ts) es L fo → P β' ν') → FA Γ X P (chL l) β ν
 | [], m, ts, β, ν, r, _, _, h => h β ν r
 | x :: l, m, ts, β, ν, r, h1, h2, h => by
  rw [List.length_cons] at h1
  have x1 := h2 x (.head _)
  refine aK5 r (by exact zn [m, l.length] (.h 1 (.a (.v 0) (.m 2 (.a (.v 1) (.n 1)))) (.n 60000) .e) (.v 0) (.n 70000) rfl h1) (by omega) fun β' ν' B => faq (aK4 l (ts := putN ts x) B (by exact oz151 h1) (fun y hy => h2 y (.tail _ hy)) fun β2 ν2 B2 => h β2 ν2 ?_)
  rw [List.length_cons, show m + 2 * (l.length + 1) = m + 2 + 2 * l.length by exact oz156]
  exact B2
noncomputable abbrev bdT (f : Fm) : Fm := { bd00 with nxt := [f.id] }
theorem aT8 {e : Nat} (h : ∀ β' ν' fT σ' g', Gp β' (oS "in table") 377 fT [] (bdT fT) 5000 σ' g' → Cor (lw5 D) (flushS σ' g') → fT.nm = sTable → fT.par = 3 → fT.nxt = [] → fT.at_ = [] → P β' ν') : FA Γ X P (lw5 D).toks (β3 e) ν := by
 have z := fun k => sgs (D k)
 have z0 := (z 0).1
 rw [aQx, aAk]
 refine aK4 (sigL (D 0)) bdy0 (by exact oz176 z0) (z 0).2 fun β1 ν1 B1 => ?_
 have B1 : Bdy β1 bd00 20 ((sigL (D 0)).foldl putN []) [] [] false := ⟨let ⟨ids, q⟩ := B1.D; ⟨ids, q.mono (by exact oz177 z0)⟩, B1.es, B1.fo, B1.mode, B1.foster, B1.pend⟩
 rw [aAk]
 refine aQq B1 (by omega) (by decide +kernel) fun β2 ν2 nT R2 => faq ?_
 rw [aAk]
 have g1 : Gs (oS "in table") 377 (Fm.new 3 nT sTable []) [] { bd00 with nxt := [(nT : Int)] } := gs1 rfl rfl rfl rfl rfl rfl
 refine aIk g1 R2 (s := addT (lw0 D) tableTok) ⟨rfl, rfl, rfl, rfl, rfl⟩ rfl (by omega) (z 1) (z 3) fun β3 ν3 σ3 p3 gp3 c3 => ?_
 rw [aAk]
 have c3 : Cor (lw1 D) (flushS σ3 p3) := c3
 refine aQr gp3 rfl fun β4 ν4 nB idsT R4 => faq ?_
 rw [aAk]
 have g2 : Gs (oS "in table body") 759 (Fm.new nT nB sTbody []) [{ fmT (Fm.new 3 nT sTable []) idsT (flushS σ3 p3).ts with nxt := [(nB : Int)] }] { bd00 with nxt := [(nT : Int)] } := gs2 rfl rfl rfl rfl rfl rfl rfl rfl
 refine aIk g2 R4 (s := { addT (lw1 D) tbodyTok with ts := [] }) ⟨rfl, c3.outs, c3.es, c3.L, c3.fo⟩ aCc (by omega) (z 4) (z 6) fun β5 ν5 σ5 p5 gp5 c5 => ?_
 have c5 : Cor (lw2 D) (flushS σ5 p5) := c5
 rw [aAk]
 refine aZq gp5 fun β6 ν6 nR idsB R6 => faq ?_
 rw [aAk]
 have g3 : Gs (oS "in row") 759 (Fm.new nB nR sTr []) [{ fmT (Fm.new nT nB sTbody []) idsB (flushS σ5 p5).ts with nxt := [(nR : Int)] }, { fmT (Fm.new 3 nT sTable []) idsT (flushS σ3 p3).ts with nxt := [(nB : Int)] }] { bd00 with nxt := [(nT : Int)] } := gs3 rfl rfl rfl rfl rfl rfl rfl rfl rfl rfl
 refine aIk g3 R6 (s := { addT (lw2 D) trTok with ts := [] }) ⟨rfl, c5.outs, c5.es, c5.L, c5.fo⟩ aCc (by omega) (z 7) (z 9) fun β7 ν7 σ7 p7 gp7 c7 => ?_
 have c7 : Cor (lw3 D) (flushS σ7 p7) := c7
 rw [aAk]
 refine aQp gp7 rfl rfl (fun idb tsb k hk => ?_) fun β8 ν8 R8 => faq ?_
 ·simp only [List.cons_append, List.nil_append, List.mem_cons, List.not_mem_nil, or_false] at hk
  rcases hk with rfl | rfl | rfl
  ·exact .inr ⟨_, .tail _ (.head _), rfl⟩
  ·exact .inr ⟨_, .tail _ (.tail _ (.head _)), rfl⟩
  ·exact .inl rfl
 rw [aAk]
 have g4 : Gs (oS "in table body") 759 { ({ fmT (Fm.new nT nB sTbody []) idsB (flushS σ5 p5).ts with nxt := [(nR : Int)] } : Fm) with nxt := [] } [{ fmT (Fm.new 3 nT sTable []) idsT (flushS σ3 p3).ts with nxt := [(nB : Int)] }] { bd00 with nxt := [(nT : Int)] } := gs2 rfl rfl rfl rfl rfl rfl rfl rfl
 refine aIk g4 R8 (s := { addT (lw3 D) (endTok sTr) with ts := (lw2 D).ts ++ [.el sTr [] (lw3 D).ts], inn := [8] }) ⟨?_, c7.outs, c7.es, c7.L, c7.fo⟩ aCc (by omega) (z 10) (z 12) fun β9 ν9 σ9 p9 gp9 c9 => ?_
 ·show (flushS σ5 p5).ts ++ [.el sTr [] (flushS σ7 p7).ts] = _
  rw [c5.ts, c7.ts]
 have c9 : Cor (lw4 D) (flushS σ9 p9) := c9
 rw [aAk]
 refine aK7 gp9 rfl rfl (fun idb tsb k hk => ?_) fun β10 ν10 R10 => faq ?_
 ·simp only [List.cons_append, List.nil_append, List.mem_cons, List.not_mem_nil, or_false] at hk
  rcases hk with rfl | rfl
  ·exact .inr ⟨_, .tail _ (.head _), rfl⟩
  ·exact .inl rfl
 have g5 : Gs (oS "in table") 377 { ({ fmT (Fm.new 3 nT sTable []) idsT (flushS σ3 p3).ts with nxt := [(nB : Int)] } : Fm) with nxt := [] } [] { bd00 with nxt := [(nT : Int)] } := gs1 rfl rfl rfl rfl rfl rfl
 refine aIk g5 R10 (s := { addT (lw4 D) (endTok sTbody) with ts := (lw1 D).ts ++ [.el sTbody [] (lw4 D).ts], inn := [7, 8] }) ⟨?_, c9.outs, c9.es, c9.L, c9.fo⟩ aCc (by omega) (z 13) (z 15) fun β11 ν11 σ11 p11 gp11 c11 => ?_
 ·show (flushS σ3 p3).ts ++ [.el sTbody [] (flushS σ9 p9).ts] = _
  rw [c3.ts, c9.ts]
 exact h β11 ν11 _ σ11 p11 ⟨gp11.md, gp11.sk, gp11.G.more (by omega), gp11.ok, by omega⟩ c11 rfl rfl rfl rfl
end
abbrev fc_764 : FC := fnC (oS "_law_plain") (scopeS (stAt 66)) 764 (.ref 763)
theorem aTa {P : Params} : FnG P (oS "_law_plain") 764 := ⟨⋯, ⋯⟩
theorem aHy : ∀ n, cellsFrom n (scopeS (stAt 66)).names [] = [(oS "tree", n)] := fun n => ⋯
theorem aHd {v0 v1 : AV} (h : Plain fc_764 → Exs Γ fc_764 d (bodyS (stAt 66)) [(oS "tree", some v0), (oS "node", some v1)] H (RetQ Q)) : Cd Γ (d + 1) (.ref 764) [v0, v1] H Q := by
 refine aMv (f := 764) (args := [v0, v1]) (name := oS "_law_plain") (qual := oS "_law_plain") (params := argsS (stAt 66)) (body := bodyS (stAt 66)) (scope := scopeS (stAt 66)) (dV := .none) (kV := .none) (doc := .none) (pm := (.str "law_nt0622_01" 1153)) (an := none) (cdv := (.ref 763)) (ct := .none) (oc := .type "function") (od := none) (osl := [].toArray) ⋯ ⋯
  [(oS "tree", some v0), (oS "node", some v1)] (oS "tree") aHy (fun s φ xs X r => ?_) (show [oS "tree", oS "node"].Nodup by decide +kernel) ⋯ (fun p hp => ?_) ⋯ ⋯ ⋯ ((h ⟨⋯⟩).out fun fl ρ' H' q => ?_)
 ·obtain ⟨y0, y1, rfl, r0, r1⟩ := r.two
  refine ⟨[(oS "tree", y0), (oS "node", y1)], bindsP X (fun S => ⋯), fun y hy => ?_, fun x v hx => ?_⟩
  ·simp only [List.mem_cons, List.not_mem_nil, or_false] at hy
   rcases hy with rfl | rfl
   ·exact .inr rfl
   ·exact .inl ⋯
  ·simp only [List.mem_cons, List.not_mem_nil, or_false, Prod.mk.injEq, Option.some.injEq] at hx
   rcases hx with ⟨rfl, rfl⟩ | ⟨rfl, rfl⟩
   ·exact ⟨y0, r0, .inr ⟨rfl, ⋯⟩⟩
   ·exact ⟨y1, r1, .inl ⟨⋯, ⋯⟩⟩
 ·simp only [List.mem_cons, List.not_mem_nil, or_false] at hp
  rcases hp with rfl | rfl
  ·exact .inr rfl
  ·exact .inl ⋯
 ·cases fl <;> obtain ⟨H'', l, q⟩ := q <;> exact ⟨H'', l, q⟩
def so (x : Str) : Prop := PyData.strOk x = true
def sos (l : List (Str × Str)) : Prop := ∀ p ∈ l, so p.1 ∧ so p.2
inductive GT : Nat → Tr → Prop
 | lf {d : Nat} {k x : Str} : so k → so x → GT d (.lf k x)
 | el {d : Nat} {nm : Str} {at_ : List (Str × Str)} {ts : List Tr} : nm ≠ sText → so nm → sos at_ → (∀ t ∈ ts, GT d t) → GT (d + 1) (.el nm at_ ts)
theorem GT.mono {d : Nat} {t : Tr} (h : GT d t) : ∀ {d' : Nat}, d ≤ d' → GT d' t := by
 induction h with
 | lf a b => intro d' _; exact .lf a b
 | el a b c _ ih =>
  intro d' hd
  obtain ⟨e, rfl⟩ : ∃ e, d' = e + 1 := ⟨d' - 1, by exact oz186 hd⟩
  exact .el a b c fun t ht => ih t ht (by exact oz187 hd)
def UP (n n' : Nat) (i : Id) : Prop := (∃ k, i = .at k) ∨ ∃ k, n ≤ k ∧ k < n' ∧ i = .lw k
structure PlX (X X' : AH) (n n' : Nat) : Prop where
 le : n ≤ n'
 fr : ∀ k, n' ≤ k → X' (.lw k) = .free
 lw : ∀ k, k < n → X' (.lw k) = X (.lw k)
 lx : ∀ k, X' (.lx k) = X (.lx k)
theorem aE5 {n : Nat} {c : Cell} : upd (BH X β ν) (.lw n) c = BH (upd X (.lw n) c) β ν := by
 funext i
 cases i <;> rfl
theorem aUw {N : List Node} {p i : Int} {nm : Str} {at_ : List (Str × Str)} {ts : List Tr} (h : Fits N p i (.el nm at_ ts)) : ∃ n, gN N i = some n ∧ n.kind = sElement ∧ n.name = nm ∧ n.attrs = at_ ∧ FitsL N i n.kids ts := by
 cases h with
 | el h1 h2 h3 h4 => exact ⟨_, h1, h3, rfl, rfl, h4⟩
theorem aOn {N : List Node} {p i : Int} {k x : Str} (h : Fits N p i (.lf k x)) : ∃ n, gN N i = some n ∧ (n.kind = sText ∨ n.kind = sComment) ∧ n.kind = k ∧ n.text = x := by
 cases h with
 | lf h1 h2 h3 => exact ⟨_, h1, h3, rfl, rfl⟩
theorem FitsL.get {N : List Node} {p : Int} {is : List Int} {ts : List Tr} (h : FitsL N p is ts) {k : Nat} {i : Int} (e : is[k]? = some i) : ∃ t, ts[k]? = some t ∧ Fits N p i t := by
 induction is generalizing ts k with
 | nil => cases e
 | cons j is ih =>
  cases h with
  | cons a h =>
   cases k with
   | zero => cases e; exact ⟨_, rfl, a⟩
   | succ k => exact ih h e
theorem LyTs.take_snoc {U : Id → Prop} {vs : List AV} {ts : List Tr} {k : Nat} {v : AV} {t : Tr} (h : LyTs U H vs (ts.take k)) (e : ts[k]? = some t) (a : LyT U H v t) : LyTs U H (vs ++ [v]) (ts.take (k + 1)) := by
 rw [List.take_add_one, e]; exact h.snoc a
theorem aQh (hN : β.nodes.length ≤ 90000) (hk : ∀ i n, gN β.nodes i = some n → n.kids.length ≤ 90000) : ∀ (D : Nat) (t : Tr) {p i : Int} {X : AH} {n : Nat} {Q : AV → AH → Prop}, GT D t → Fits β.nodes p i t → (∀ k, n ≤ k → X (.lw k) = .free) →
  (∀ X' n' v, PlX X X' n n' → LyT (UP n n') (BH X' β ν) v t → Q v (BH X' β ν)) → Cd Γ (D + 1) (.ref 764) [.ref .tree, .int i] (BH X β ν) Q := by
 intro D
 induction D with
 | zero =>
  intro t p i X n Q g f fr h
  cases g with
  | @lf _ k x s1 s2 =>
   refine hZ fun GZ kZ => ?_
   obtain ⟨nd, e1, e2, rfl, rfl⟩ := aOn f
   have hn : Nd β i nd := Nd.of e1 (by omega)
   have hb : [AV.str "text", .str "comment"].any (isStr nd.kind) = true := by
    rcases e2 with e | e <;> rw [e] <;> decide +kernel
   refine kZ ?_
   refine aHd fun P => ?_
   nofun
   exact aA3 (h X n _ ⟨Nat.le_refl _, fr, fun _ _ => rfl, fun _ => rfl⟩ .lf)
 | succ D ih =>
  intro t p i X n Q g f fr h
  cases g with
  | @lf _ k x s1 s2 =>
   refine hZ fun GZ kZ => ?_
   obtain ⟨nd, e1, e2, rfl, rfl⟩ := aOn f
   have hn : Nd β i nd := Nd.of e1 (by omega)
   have hb : [AV.str "text", .str "comment"].any (isStr nd.kind) = true := by
    rcases e2 with e | e <;> rw [e] <;> decide +kernel
   refine kZ ?_
   refine aHd fun P => ?_
   nofun
   exact aA3 (h X n _ ⟨Nat.le_refl _, fr, fun _ _ => rfl, fun _ => rfl⟩ .lf)
  | @el _ nm at_ ts s0 s1 s2 s3 =>
   refine hZ fun GZ kZ => ?_
   obtain ⟨nd, e1, e2, rfl, rfl, fl⟩ := aUw f
   have hn : Nd β i nd := Nd.of e1 (by omega)
   have hz : nd.kids.length ≤ 90000 := hk _ _ e1
   have hb : [AV.str "text", .str "comment"].any (isStr nd.kind) = false := by
    rw [e2]; decide +kernel
   refine kZ ?_
   refine aHd fun P => ?_
   nofun
   refine aA6 (.lw n) (aAi ?_)
   nofun
   refine aNc (x := oS "kid") (cap := [(oS "tree", some (.ref .tree))]) (cl := fc_764.cells) (.lw (n + 1)) (.kd i.toNat) (intL nd.kids)
    (fun k H1 => ∃ X1 n1 l1, H1 = BH X1 β ν ∧ n + 2 ≤ n1 ∧ (∀ k, n1 ≤ k → X1 (.lw k) = .free) ∧ (∀ k, k ≤ n → X1 (.lw k) = X (.lw k)) ∧ (∀ k, X1 (.lx k) = X (.lx k)) ∧ X1 (.lw (n + 1)) = .live (.lst l1) ∧ LyTs (UP (n + 2) n1) (BH X1 β ν) l1 (ts.take k))
    ⟨fun L => ⋯, rfl, by decide +kernel, by decide +kernel, by decide +kernel, fun L n b hm => hm, fun L => ?_, fun L y v hm => ?_, by simp; decide +kernel⟩ ?_ ?_ ?_ ?_
   ·rw [show fc_764.cells L = [(oS "tree", L + 1)] from aHy (L + 1)]; exact List.pairwise_singleton _ _
   ·simp only [List.mem_singleton, Prod.mk.injEq] at hm
    obtain ⟨rfl, rfl⟩ := hm
    exact ⟨_, rfl, .head _, ⋯, ⋯, fun b hb => hb⟩
   ·nofun
    refine ⟨rfl, aE4 hn.at_, fr _ (Nat.le_succ _), upd X (.lw (n + 1)) (.live (.lst [])), n + 2, [], aE5, Nat.le_refl _, fun k hk => aA0 (aAc (by exact oz188 hk)) (fr k (by omega)), fun k hk => aA0 (aAc (by exact oz189 hk)) rfl, fun k => aA0 nofun rfl, aA2, .nil⟩
   ·rintro k _ zw0
    obtain ⟨X1, n1, l1, rfl, _⟩ := zw0
    exact aE4 hn.at_
   ·rintro L k _ u zw0 hu
    refine hZ fun GZ kZ => ?_
    obtain ⟨X1, n1, l1, rfl, q1, q2, q3, q4, q5, q6⟩ := zw0
    rw [intL, List.getElem?_map] at hu
    obtain ⟨j, hj, rfl⟩ := Option.map_eq_some_iff.mp hu
    obtain ⟨t, ht, ft⟩ := fl.get hj
    refine kZ ?_
    refine aGe ⋯ fun P2 => ?_
    refine aKr aTa ⋯ ?_
    nofun
    refine aA4 (d' := D + 1) (ih t (n := n1) (s3 t (List.mem_of_getElem? ht)) ft q2 fun X2 n2 v x2 ly => ?_) (Nat.ble_self_eq_true _)
    have kp : ∀ i, UP (n + 2) n1 i → BH X1 β ν i ≠ .free → BH (upd X2 (.lw (n + 1)) (.live (.lst (l1 ++ [v])))) β ν i = BH X1 β ν i := by
     rintro _ (⟨k, rfl⟩ | ⟨k, k1, k2, rfl⟩) _
     ·rfl
     ·exact aA0 (aAc (by exact oz188 k1)) (x2.lw k k2)
    have kq : ∀ i, UP n1 n2 i → BH X2 β ν i ≠ .free → BH (upd X2 (.lw (n + 1)) (.live (.lst (l1 ++ [v])))) β ν i = BH X2 β ν i := by
     rintro _ (⟨k, rfl⟩ | ⟨k, k1, k2, rfl⟩) _
     ·rfl
     ·exact aA0 (aAc (by exact fun e => (zff (zn [k, n, n1] (.h 1 (.a (.v 1) (.n 2)) (.v 2) (.h 1 (.v 2) (.v 0) (.h 1 (.v 0) (.a (.v 1) (.n 1)) .e))) (.n 1) (.n 0) rfl q1 k1 (Nat.le_of_eq e))))) rfl
    have l2 := x2.le
    have tl : l1.length ≤ 90000 := by
     rw [q6.len, List.length_take]
     have := fl.len
     exact zn [(min k ts.length), ts.length, nd.kids.length] (.h 1 (.v 2) (.n 90000) (.h 1 (.v 1) (.v 2) (.h 1 (.v 0) (.v 1) .e))) (.v 0) (.n 90000) rfl hz (Nat.le_of_eq this.symm) (Nat.min_le_right k ts.length)
    refine ⟨l1, (x2.lw (n + 1) (by exact oz192 q1)).trans q5, by omega, upd X2 (.lw (n + 1)) (.live (.lst (l1 ++ [v]))), n2, l1 ++ [v], aE5, by omega, fun k hk => aA0 (aAc (by exact fun e => (zff (zn [k, n, n2, n1] (.h 1 (.a (.v 1) (.n 2)) (.v 3) (.h 1 (.v 3) (.v 2) (.h 1 (.v 2) (.v 0) (.h 1 (.v 0) (.a (.v 1) (.n 1)) .e)))) (.n 1) (.n 0) rfl q1 l2 hk (Nat.le_of_eq e))))) (x2.fr k hk), fun k hk => aA0 (aAc (by exact oz189 hk)) ((x2.lw k (by exact zn [k, n, n1] (.h 1 (.a (.v 1) (.n 2)) (.v 2) (.h 1 (.v 0) (.v 1) .e)) (.a (.v 0) (.n 1)) (.v 2) rfl q1 hk)).trans (q3 k hk)), fun k => aA0 nofun ((x2.lx k).trans (q4 k)), aA2, ?_⟩
    refine (q6.keep (fun i u => ?_) kp).take_snoc ht (ly.keep (fun i u => ?_) kq)
    ·rcases u with u | ⟨k, k1, k2, e⟩
     ·exact .inl u
     ·exact .inr ⟨k, k1, by exact zn [k, n1, n2] (.h 1 (.v 1) (.v 2) (.h 1 (.a (.v 0) (.n 1)) (.v 1) .e)) (.a (.v 0) (.n 1)) (.v 2) rfl l2 k2, e⟩
    ·rcases u with u | ⟨k, k1, k2, e⟩
     ·exact .inl u
     ·exact .inr ⟨k, by omega, k2, e⟩
   ·rintro _ zw0
    obtain ⟨X1, n1, l1, rfl, q1, q2, q3, q4, q5, q6⟩ := zw0
    have ln : (intL nd.kids).length = ts.length := by rw [intL, List.length_map]; exact fl.len
    rw [ln, List.take_of_length_le (Nat.le_refl _)] at q6
    nofun
    refine ⟨(q3 n (Nat.le_refl _)).trans (fr n (Nat.le_refl _)), aA3 ?_⟩
    rw [aE5]
    have kp : ∀ z, UP (n + 2) n1 z → BH X1 β ν z ≠ .free → BH (upd X1 (.lw n) (.live (.lst [.str nd.name, .ref (.at i.toNat), .ref (.lw (n + 1))]))) β ν z = BH X1 β ν z := by
     rintro _ (⟨k, rfl⟩ | ⟨k, k1, k2, rfl⟩) _
     ·rfl
     ·exact aA0 (aAc (by exact fun e => (zff (zn [k, n] (.h 1 (.a (.v 1) (.n 2)) (.v 0) (.h 1 (.v 0) (.v 1) .e)) (.n 1) (.n 0) rfl k1 (Nat.le_of_eq e))))) rfl
    refine h _ n1 _ ⟨by omega, fun k hk => aA0 (aAc (by exact fun e => (zff (zn [k, n, n1] (.h 1 (.a (.v 1) (.n 2)) (.v 2) (.h 1 (.v 2) (.v 0) (.h 1 (.v 0) (.v 1) .e))) (.n 1) (.n 0) rfl q1 hk (Nat.le_of_eq e))))) (q2 k hk), fun k hk => aA0 (aAc (by exact oz105 hk)) (q3 k (by omega)), fun k => aA0 nofun (q4 k)⟩ ?_
    refine .el (p := .at i.toNat) (c := .lw (n + 1)) (.inr ⟨n, Nat.le_refl _, by exact zn [n, n1] (.h 1 (.a (.v 0) (.n 2)) (.v 1) .e) (.a (.v 0) (.n 1)) (.v 1) rfl q1, rfl⟩) (.inl ⟨_, rfl⟩) (.inr ⟨n + 1, by omega, by exact oz192 q1, rfl⟩) s0 aA2 (aLq hn.at_) (aA0 (aAc (by omega)) q5) (q6.keep (fun z u => ?_) kp)
    rcases u with u | ⟨k, k1, k2, e⟩
    ·exact .inl u
    ·exact .inr ⟨k, by omega, k2, e⟩
theorem aAm (x : String) : so (oS x) := by
 unfold so PyData.strOk
 rw [Str.ofString_eq_toList, Array.all_eq_true']
 intro c hc
 simp only [List.mem_toArray, List.mem_map] at hc
 obtain ⟨ch, _, rfl⟩ := hc
 have h : ch.toNat < 0xd800 ∨ (0xdfff < ch.toNat ∧ ch.toNat < 0x110000) := ch.valid
 have h : ch.toNat < 0x110000 := by exact oz199 h
 simpa using h
theorem aZ4 {a b : Str} (ha : so a) (hb : so b) : so (a ++ b) := by
 unfold so PyData.strOk at *
 show (a.cps ++ b.cps).all _ = true
 rw [Array.all_append, ha, hb]; rfl
theorem aZ5 {al : Str} {k : Int} (h : so al) : so (chS al k) := by
 unfold so PyData.strOk at *
 have : (al.cps[(k.fmod al.length).toNat]?).getD 0 < 0x110000 := by
  cases e : al.cps[(k.fmod al.length).toNat]? with
  | none => decide
  | some c =>
   have := Array.all_eq_true'.mp h c (Array.mem_of_getElem? e)
   exact of_decide_eq_true this
 show Array.all #[_] _ = true
 simpa using this
theorem aJ2 {al : Str} (h : so al) : ∀ (k : Nat) (q : Int), ∀ x ∈ signsG al k q, so x
 | 0, _, x, hx => nomatch hx
 | k + 1, q, x, hx => by
  rcases List.mem_cons.mp hx with rfl | hx
  ·exact aZ5 h
  ·exact aJ2 h k _ x hx
theorem aF1 {k : Int} : ∀ x ∈ sigL k, so x := aJ2 (by unfold alph; split <;> exact aAm _) _ _
theorem aP4 {d : Nat} {ts : List Tr} {x : Str} (h : ∀ t ∈ ts, GT d t) (hx : so x) : ∀ t ∈ putT ts x, GT d t := by
 by_cases k : ∃ us s, ts = us ++ [.lf sText s]
 ·obtain ⟨us, s, rfl⟩ := k
  rw [aBr]
  intro t ht
  rcases List.mem_append.mp ht with ht | ht
  ·exact h t (List.mem_append_left _ ht)
  ·rw [List.mem_singleton.mp ht]
   cases h (.lf sText s) (List.mem_append_right _ (.head _)) with
   | lf a b => exact .lf a (aZ4 b hx)
 ·rw [aCm fun us s q => k ⟨us, s, q⟩]
  intro t ht
  rcases List.mem_append.mp ht with ht | ht
  ·exact h t ht
  ·rw [List.mem_singleton.mp ht]; exact .lf (aAm _) hx
theorem aGz {d : Nat} : ∀ (l : List Str) {ts : List Tr}, (∀ t ∈ ts, GT d t) → (∀ x ∈ l, so x) → ∀ t ∈ l.foldl putT ts, GT d t
 | [], ts, h, _ => h
 | x :: l, ts, h, hx => aGz l (aP4 h (hx x (.head _))) fun y hy => hx y (.tail _ hy)
theorem aDz {d : Nat} : ∀ (l : List Str) {ts : List Tr}, (∀ t ∈ ts, GT d t) → (∀ x ∈ l, so x) → ∀ t ∈ l.foldl putN ts, GT d t
 | [], ts, h, _ => h
 | x :: l, ts, h, hx => aDz l (ts := putN ts x) (by
   unfold putN
   split
   ·exact h
   ·exact aP4 h (hx x (.head _))) fun y hy => hx y (.tail _ hy)
structure GS (d : Nat) (s : LS) : Prop where
 outs : ∀ t ∈ s.outs, GT 1 t
 ts : ∀ t ∈ s.ts, GT d t
 es : sos s.es
 ow : ∀ a ∈ s.ow, sos a
 run : ∀ x ∈ s.run, so x
theorem aCr {l : List (Str × Str)} {p : Str × Str} (h : sos l) (a : so p.1) (b : so p.2) : sos (l ++ [p]) := fun q hq => by
 rcases List.mem_append.mp hq with hq | hq
 ·exact h q hq
 ·rw [List.mem_singleton.mp hq]; exact ⟨a, b⟩
section
variable {s : LS} {M : Str} {d : Nat}
theorem GS.read1 {x : Str} (h : GS d s) (hx : so x) : GS d (read1 s x) := by
 refine ⟨h.outs, h.ts, ?_, h.ow, ?_⟩
 ·show sos (if _ then _ else _)
  split
  ·exact aCr h.es (aAm _) (aAm _)
  ·exact h.es
 ·show ∀ y ∈ (if x = sNul then s.run else s.run ++ [x]), so y
  split
  ·exact h.run
  ·intro y hy
   rcases List.mem_append.mp hy with hy | hy
   ·exact h.run y hy
   ·rw [List.mem_singleton.mp hy]; exact hx
theorem GS.read : ∀ (l : List Str) {s : LS}, GS d s → (∀ x ∈ l, so x) → GS d (readS s l)
 | [], s, h, _ => h
 | x :: l, s, h, hx => GS.read l (h.read1 (hx x (.head _))) fun y hy => hx y (.tail _ hy)
theorem GS.settle (h : GS d s) : GS d (settleS s) := by
 unfold settleS
 split
 ·exact ⟨h.outs, aGz _ h.ts h.run, h.es, h.ow, fun x hx => nomatch hx⟩
 ·refine ⟨aGz _ h.outs h.run, h.ts, fun q hq => ?_, h.ow, fun x hx => nomatch hx⟩
  rcases List.mem_append.mp hq with hq | hq
  ·exact h.es q hq
  ·obtain ⟨_, _, rfl⟩ := List.mem_map.mp hq
   exact ⟨aAm _, aAm _⟩
theorem GS.err {a b : Str} (h : GS d s) (ha : so a) (hb : so b) : GS d { s with es := s.es ++ [(a, b)] } := ⟨h.outs, h.ts, aCr h.es ha hb, h.ow, h.run⟩
theorem GS.tok {v : List AV} (h : GS d s) : GS d { s with toks := v } := ⟨h.outs, h.ts, h.es, h.ow, h.run⟩
theorem aHe {at_ : List (Str × Str)} (h : sos at_) : sos (pairsS s at_) := fun p hp => by
 rcases List.mem_cons.mp hp with rfl | hp
 ·exact ⟨aAm _, aAm _⟩
 ·exact h p hp
theorem aC1 : sos [] := fun p hp => nomatch hp
theorem GS.start {kk : KK} {nm : Str} {at_ : List (Str × Str)} {cl : Bool} (h : GS (d + 1) s) (h1 : nm ≠ sText) (h2 : so nm) (h3 : sos at_) : GS (d + 1) (startS s kk nm at_ cl) := by
 have e : ∀ {d : Nat}, GT (d + 1) (.el nm (pairsS s at_) []) := .el h1 h2 (aHe h3) fun t ht => nomatch ht
 have sn : ∀ {d : Nat} {l : List Tr}, (∀ t ∈ l, GT (d + 1) t) → ∀ t ∈ l ++ [.el nm (pairsS s at_) []], GT (d + 1) t := fun {d l} hl t ht => by
  rcases List.mem_append.mp ht with ht | ht
  ·exact hl t ht
  ·rw [List.mem_singleton.mp ht]; exact e
 have k : GS (d + 1) (kk.add { s with toks := s.toks ++ [startTok nm (pairsS s at_) cl] } (.el nm (pairsS s at_) [])) := by
  cases kk with
  | inn => exact ⟨h.outs, sn h.ts, h.es, h.ow, h.run⟩
  | out => exact ⟨sn h.outs, h.ts, h.es, h.ow, h.run⟩
  | drop k => exact h.tok
 unfold startS
 simp only []
 split
 ·refine ⟨k.outs, k.ts, k.es, fun a ha => ?_, k.run⟩
  rcases List.mem_append.mp ha with ha | ha
  ·exact k.ow a ha
  ·rw [List.mem_singleton.mp ha]; exact aHe h3
 ·exact k
def ThSo : Thing → Prop
 | .comment x => so x
 | .hidden x => so x
 | .head nm => nm ≠ sText ∧ so nm
 | .input at_ => sos at_
 | .b l => ∀ x ∈ l, so x
 | _ => True
theorem aMs {sort rest : Int} (h : 0 < sort ∧ sort < 12) : ThSo (thingOf sort rest) := by
 unfold thingOf
 by_cases h8 : sort < 8
 ·rw [if_pos h8]
  have : sort = 1 ∨ sort = 2 ∨ sort = 3 ∨ sort = 4 ∨ sort = 5 ∨ sort = 6 ∨ sort = 7 := by exact oz157 h h8
  rcases this with rfl | rfl | rfl | rfl | rfl | rfl | rfl
  ·exact aAm _
  ·have k : ∀ x ∈ typesL, PyData.strOk x = true := by decide +kernel
   exact k _ (aBq (fmodR rest 3 (by decide)).1 (fmodR rest 3 (by decide)).2)
  ·exact trivial
  ·have k : ∀ x ∈ headsL, x ≠ sText ∧ PyData.strOk x = true := by decide +kernel
   exact k _ (aBq (fmodR rest 3 (by decide)).1 (fmodR rest 3 (by decide)).2)
  ·exact trivial
  ·exact trivial
  ·exact trivial
 ·rw [if_neg h8]
  have : sort = 8 ∨ sort = 9 ∨ sort = 10 ∨ sort = 11 := by exact oz158 h h8
  rcases this with rfl | rfl | rfl | rfl
  ·have k : ∀ a ∈ atsL, ∀ p ∈ a, PyData.strOk p.1 = true ∧ PyData.strOk p.2 = true := by decide +kernel
   exact k _ (show pickA (rest.fmod 4) ∈ atsL from aG8 (sort := 8) (rest := rest) (by decide))
  ·exact trivial
  ·exact trivial
  ·exact aF1
theorem aF3 {d : Nat} {l : List Tr} {t : Tr} (h : ∀ t ∈ l, GT d t) (ht : GT d t) : ∀ u ∈ l ++ [t], GT d u := fun u hu => by
 rcases List.mem_append.mp hu with hu | hu
 ·exact h u hu
 ·rw [List.mem_singleton.mp hu]; exact ht
theorem GS.thing {t : Thing} (h : GS (d + 1) s) (hM : so M) (ht : ThSo t) : GS (d + 1) (thingS M s t) := by
 cases t with
 | comment x => exact ⟨h.outs, aF3 h.ts (.lf (aAm _) ht), h.es, h.ow, h.run⟩
 | hidden x => exact (h.err (aAm _) hM).start (nm := sInput) (by decide +kernel) (aAm _) fun p hp => by rw [List.mem_singleton.mp hp]; exact ⟨aAm _, ht⟩
 | form cl =>
  have k : ∀ kk, GS (d + 1) (startS { s with es := s.es ++ [eTag M] } kk (oS "form") [] cl) := fun kk => (h.err (aAm _) hM).start (nm := oS "form") (by decide +kernel) (aAm _) aC1
  have k := k (if s.forms = 0 then .inn else .drop 0)
  refine ⟨k.outs, k.ts, ?_, k.ow, k.run⟩
  show sos (if _ then _ else _)
  split
  ·exact aCr k.es (aAm _) hM
  ·exact k.es
 | head nm => exact h.start ht.1 ht.2 aC1
 | endT => exact (h.err (aAm _) hM).tok
 | endErr nm => exact (h.err (aAm _) hM).tok
 | doctype => exact (h.err (aAm _) hM).tok
 | input at_ => exact (h.err (aAm _) hM).start (nm := sInput) (by decide +kernel) (aAm _) ht
 | br =>
  show GS (d + 1) (startS { s with es := s.es ++ [eFos M] } .out (oS "br") [] true)
  exact (h.err (aAm _) hM).start (by decide +kernel) (aAm _) aC1
 | endP => exact (h.err (aAm _) hM).tok
 | b l =>
  refine ⟨aF3 h.outs (.el (nm := sB) (by decide +kernel) (aAm _) (aHe aC1) (aDz l (fun t ht => nomatch ht) ht)), h.ts, aCr (fun p hp => ?_) (aAm _) hM, h.ow, h.run⟩
  rcases List.mem_append.mp hp with hp | hp
  ·exact aCr h.es (aAm _) hM p hp
  ·obtain ⟨_, _, rfl⟩ := List.mem_map.mp hp
   exact ⟨aAm _, hM⟩
theorem GS.gap {l1 l2 : List Str} {number : Int} (h : GS (d + 1) s) (hM : so M) (h1 : ∀ x ∈ l1, so x) (h2 : ∀ x ∈ l2, so x) : GS (d + 1) (gapS M s l1 number l2) := by
 refine (GS.read l2 ?_ h2).settle
 have k := GS.read l1 h h1
 unfold midS
 split
 ·rename_i hn
  exact k.settle.thing hM (aMs ⟨hn, (fmodR number 12 (by decide)).2⟩)
 ·exact k
variable {D : Nat → Int}
theorem GS.gpS {k : Nat} (h : GS (d + 1) s) (hM : so M) : GS (d + 1) (gpS D M k s) := h.gap hM aF1 aF1
theorem GS.fresh {v : AV} (h : GS d s) {e : Nat} : GS e { addT s v with ts := [] } := ⟨h.outs, fun t ht => (nomatch ht), h.es, h.ow, h.run⟩
theorem aTc : GS 1 (lw1 D) := GS.gpS ⟨aDz _ (fun t ht => nomatch ht) aF1, fun t ht => (nomatch ht), aC1, fun a ha => (nomatch ha), fun x hx => (nomatch hx)⟩ (aAm _)
theorem aTd : GS 1 (lw2 D) := GS.gpS (aTc.fresh) (aAm _)
theorem aXw : GS 1 (lw3 D) := GS.gpS (aTd.fresh) (aAm _)
theorem aXx : GS 2 (lw4 D) := by
 have h := aXw (D := D)
 exact GS.gpS ⟨h.outs, aF3 (fun t ht => (aTd.ts t ht).mono (by omega)) (.el (nm := sTr) (by decide +kernel) (aAm _) aC1 h.ts), h.es, h.ow, h.run⟩ (aAm _)
theorem aFz : GS 3 (lw5 D) := by
 have h := aXx (D := D)
 exact GS.gpS ⟨h.outs, aF3 (fun t ht => (aTc.ts t ht).mono (by omega)) (.el (nm := sTbody) (by decide +kernel) (aAm _) aC1 h.ts), h.es, h.ow, h.run⟩ (aAm _)
end
noncomputable def prD (l : List (Str × Str)) : List PyData := l.map fun p => .tuple [.str p.1, .str p.2]
mutual
noncomputable def trD : Tr → PyData
 | .lf k x => .tuple [.str k, .str x]
 | .el nm at_ ts => .list [.str nm, .list (prD at_), .list (trDs ts)]
noncomputable def trDs : List Tr → List PyData
 | [] => []
 | t :: ts => trD t :: trDs ts
end
theorem aHk : ∀ ts : List Tr, trDs ts = ts.map trD
 | [] => rfl
 | t :: ts => by rw [trDs, aHk ts]; rfl
theorem aBy : ∀ l : List (Str × Str), RdAs H (pairL l) (prD l)
 | [] => .nil
 | p :: l => .cons (.tup (.cons .str (.cons .str .nil))) (aBy l)
theorem LyT.rd {U : Id → Prop} {v : AV} {t : Tr} (h : LyT U H v t) : RdA H v (trD t) :=
 @LyT.rec U H (fun v t _ => RdA H v (trD t)) (fun vs ts _ => RdAs H vs (trDs ts)) (.tup (.cons .str (.cons .str .nil))) (fun _ _ _ _ h1 h2 h3 _ r => .lst h1 (.cons .str (.cons (.lst h2 (aBy _)) (.cons (.lst h3 r) .nil)))) .nil (fun _ _ a b => .cons a b) _ _ h
theorem LyTs.rd {U : Id → Prop} {vs : List AV} {ts : List Tr} (h : LyTs U H vs ts) : RdAs H vs (trDs ts) :=
 @LyTs.rec U H (fun v t _ => RdA H v (trD t)) (fun vs ts _ => RdAs H vs (trDs ts)) (.tup (.cons .str (.cons .str .nil))) (fun _ _ _ _ h1 h2 h3 _ r => .lst h1 (.cons .str (.cons (.lst h2 (aBy _)) (.cons (.lst h3 r) .nil)))) .nil (fun _ _ a b => .cons a b) _ _ h
theorem aEo : ∀ l : List PyData, (∀ x ∈ l, x.canLay0 = true) → PyData.canLayAll0 l = true
 | [], _ => rfl
 | x :: l, h => by rw [PyData.canLayAll0, h x (.head _), aEo l fun y hy => h y (.tail _ hy)]; rfl
theorem aCb {n : Nat} : ∀ l : List PyData, (∀ x ∈ l, x.depth ≤ n) → PyData.depthAll l ≤ n
 | [], _ => Nat.zero_le _
 | x :: l, h => by
  have h1 := h x (.head _)
  have h2 := aCb l fun y hy => h y (.tail _ hy)
  rw [PyData.depthAll]; exact oz200 h1 h2
theorem aDa {l : List (Str × Str)} (h : sos l) : (PyData.list (prD l)).canLay0 = true ∧ (PyData.list (prD l)).depth ≤ 2 := by
 refine ⟨?_, ?_⟩
 ·rw [PyData.canLay0]
  refine aEo _ fun x hx => ?_
  obtain ⟨p, hp, rfl⟩ := List.mem_map.mp hx
  obtain ⟨a, b⟩ := h p hp
  have a : PyData.strOk p.1 = true := a
  have b : PyData.strOk p.2 = true := b
  simp [PyData.canLay0, PyData.canLayAll0, a, b]
 ·rw [PyData.depth]
  have := aCb (n := 1) (prD l) fun x hx => by
   obtain ⟨p, hp, rfl⟩ := List.mem_map.mp hx
   simp [PyData.depth, PyData.depthAll]
  omega
theorem GT.lay {d : Nat} {t : Tr} (h : GT d t) : (trD t).canLay0 = true ∧ (trD t).depth ≤ 2 * d + 3 := by
 induction h with
 | @lf d k x a b =>
  have a : PyData.strOk k = true := a
  have b : PyData.strOk x = true := b
  simp [trD, PyData.canLay0, PyData.canLayAll0, PyData.depth, PyData.depthAll, a, b]
 | @el d nm at_ ts a b c _ ih =>
  obtain ⟨p1, p2⟩ := aDa c
  have b : PyData.strOk nm = true := b
  have l1 : (PyData.list (trDs ts)).canLay0 = true := by
   rw [PyData.canLay0, aHk]
   refine aEo _ fun x hx => ?_
   obtain ⟨t, ht, rfl⟩ := List.mem_map.mp hx
   exact (ih t ht).1
  have l2 : (PyData.list (trDs ts)).depth ≤ 2 * d + 4 := by
   rw [PyData.depth, aHk]
   have := aCb (n := 2 * d + 3) (ts.map trD) fun x hx => by
    obtain ⟨t, ht, rfl⟩ := List.mem_map.mp hx
    exact (ih t ht).2
   exact oz201 this
  refine ⟨?_, ?_⟩
  ·simp only [trD, PyData.canLay0, PyData.canLayAll0, b, Bool.and_true, Bool.true_and, Bool.and_eq_true]
   exact ⟨by simpa [PyData.canLay0] using p1, by simpa [PyData.canLay0] using l1⟩
  ·simp only [trD, PyData.depth, PyData.depthAll] at *
   exact oz202 p2 l2
abbrev fc_823 : FC := fnC (oS "law") (scopeS (stAt 75)) 823 (.ref 822)
theorem aHz : ∀ n, cellsFrom n (scopeS (stAt 75)).names [] = [(oS "tree", n)] := fun n => ⋯
noncomputable def lawR (script state tokens sign table part row kids due rules builder tree body token owned node owner held : Option AV) : Loc :=
 [(oS "script", script), (oS "state", state), (oS "tokens", tokens), (oS "sign", sign), (oS "table", table), (oS "part", part), (oS "row", row), (oS "kids", kids), (oS "due", due), (oS "rules", rules), (oS "builder", builder),
  (oS "tree", tree), (oS "body", body), (oS "token", token), (oS "owned", owned), (oS "node", node), (oS "owner", owner), (oS "held", held)]
theorem aSq {v0 : AV} (h : Plain fc_823 → Exs Γ fc_823 d (bodyS (stAt 75)) (lawR (some v0) none none none none none none none none none none none none none none none none none) H (RetQ Q)) : Cd Γ (d + 1) (.ref 823) [v0] H Q := by
 refine aMv (f := 823) (args := [v0]) (name := oS "law") (qual := oS "law") (params := argsS (stAt 75)) (body := bodyS (stAt 75)) (scope := scopeS (stAt 75)) (dV := .none) (kV := .none) (doc := .none) (pm := (.str "law_nt0622_01" 1153)) (an := none) (cdv := (.ref 822)) (ct := .none) (oc := .type "function") (od := none) (osl := [].toArray) ⋯ ⋯
  _ (oS "tree") aHz (fun s φ xs X r => ?_) ?_ ⋯ (fun p hp => ?_) ⋯ ⋯ ⋯ ((h ⟨⋯⟩).out fun fl ρ' H' q => ?_)
 ·obtain ⟨y0, rfl, r0⟩ := r.one
  refine ⟨[(oS "script", y0)], bindsP X (fun S => ⋯), fun y hy => ?_, fun x v hx => ?_⟩
  ·rw [List.mem_singleton.mp hy]
   exact .inl ⋯
  ·simp only [lawR, List.mem_cons, List.not_mem_nil, or_false, Prod.mk.injEq, Option.some.injEq, reduceCtorEq, and_false] at hx
   obtain ⟨rfl, rfl⟩ := hx
   exact ⟨y0, r0, .inl ⟨⋯, ⋯⟩⟩
 ·show [oS "script", oS "state", oS "tokens", oS "sign", oS "table", oS "part", oS "row", oS "kids", oS "due", oS "rules", oS "builder", oS "tree", oS "body", oS "token", oS "owned", oS "node", oS "owner", oS "held"].Nodup
  decide +kernel
 ·simp only [lawR, List.mem_cons, List.not_mem_nil, or_false] at hp
  rcases hp with rfl | rfl | rfl | rfl | rfl | rfl | rfl | rfl | rfl | rfl | rfl | rfl | rfl | rfl | rfl | rfl | rfl | rfl <;> first | exact .inr rfl | exact .inl ⋯
 ·cases fl <;> obtain ⟨H'', l, q⟩ := q <;> exact ⟨H'', l, q⟩
def UX (i : Id) : Prop := (∃ k, i = .lw k) ∨ ∃ k, i = .lx k
def hasNames (β : BS) (hd : List Str) : Prop := β.items.length = hd.length ∧ ∀ (k : Nat) (i : Int) (x : Str), β.items[k]? = some i → hd[k]? = some x → ∃ n, Nd β i n ∧ n.name = x
structure FinS (X : AH) (β : BS) (n r f kk dq : Nat) (ks : List Tr) (es : List (Str × Str)) (L : List (List (Str × Str))) (M : Str) (hd : List Str) : Prop where
 fits : Fits β.nodes 1 3 (.el sBody [] ks)
 er : β.errors = es
 os : OwnS β.nodes β.owners L
 fo : β.form = -1 ↔ f = 0
 items : hasNames β hd
 mode : β.mode = M
 pend : ∃ ps, β.pends = ps ++ [[]]
 foster : β.foster = false
 nl : β.nodes.length ≤ 90000
 kl : ∀ i n, gN β.nodes i = some n → n.kids.length ≤ 90000
 ol : β.owners.length ≤ 90000
 il : β.items.length ≤ 1000
 x0 : X (.lx 0) = .live (.dcs (stF r f))
 x2 : X (.lx 2) = .live (.lst (pairL es))
 x5 : ∃ os, X (.lx 5) = .live (.lst os) ∧ OwA X os L
 xk : ∃ vs, X (.lw kk) = .live (.lst vs) ∧ LyTs UX X vs ks
 xd : X (.lw dq) = .live (.lst (strL hd))
 fr : ∀ k, n ≤ k → X (.lw k) = .free
 gk : ∀ t ∈ ks, GT 4 t
 ge : sos es
 gl : ∀ a ∈ L, sos a
 gm : so M
 gh : ∀ x ∈ hd, so x
theorem bA1 {os : List AV} {L : List (List (Str × Str))} (h : OwA H os L) : RdAs H os (L.map fun a => .tuple [.str sInput, .list (prD a), .str "form"]) :=
 OwA.rec (motive := fun os L _ => RdAs H os (L.map fun a => .tuple [.str sInput, .list (prD a), .str "form"])) .nil (fun e _ r => .cons (.tup (.cons .str (.cons (.lst e (aBy _)) (.cons .str .nil)))) r) h
theorem aY5 {L : List (List (Str × Str))} (h : ∀ a ∈ L, sos a) : (PyData.list (L.map fun a => .tuple [.str sInput, .list (prD a), .str "form"])).canLay0 = true ∧ (PyData.list (L.map fun a => .tuple [.str sInput, .list (prD a), .str "form"])).depth ≤ 10 := by
 have i1 : PyData.strOk sInput = true := aAm _
 have i2 : PyData.strOk (oS "form") = true := aAm _
 refine ⟨?_, ?_⟩
 ·rw [PyData.canLay0]
  refine aEo _ fun x hx => ?_
  obtain ⟨a, ha, rfl⟩ := List.mem_map.mp hx
  have := (aDa (h a ha)).1
  simp only [PyData.canLay0, PyData.canLayAll0, i1, i2, Bool.and_true, Bool.true_and]
  simpa [PyData.canLay0] using this
 ·rw [PyData.depth]
  have := aCb (n := 3) (L.map fun a => .tuple [.str sInput, .list (prD a), .str "form"]) fun x hx => by
   obtain ⟨a, ha, rfl⟩ := List.mem_map.mp hx
   have := (aDa (h a ha)).2
   simp only [PyData.depth, PyData.depthAll] at *
   exact oz203 this
  omega
noncomputable def owV (l : List (Int × Int)) : List AV := l.map fun p => .tup [.str sInput, .ref (.at p.1.toNat), .str "form"]
abbrev QT : AV → AH → Prop := fun v _ => v = .bool true
section
variable {n r f kk dq : Nat} {ks : List Tr} {es : List (Str × Str)} {L : List (List (Str × Str))} {M : Str} {hd : List Str} {script sign table part row token owned node owner : Option AV}
theorem FinS.keep {X' : AH} {n' : Nat} (E : FinS X β n r f kk dq ks es L M hd) (h1 : ∀ k, X (.lw k) ≠ .free → X' (.lw k) = X (.lw k)) (h2 : ∀ k, X' (.lx k) = X (.lx k)) (h3 : ∀ k, n' ≤ k → X' (.lw k) = .free) : FinS X' β n' r f kk dq ks es L M hd := by
 obtain ⟨os, o1, o2⟩ := E.x5
 obtain ⟨vs, v1, v2⟩ := E.xk
 have ux : ∀ i, UX i → X i ≠ .free → X' i = X i := by
  rintro _ (⟨k, rfl⟩ | ⟨k, rfl⟩) hf
  ·exact h1 k hf
  ·exact h2 k
 exact ⟨E.fits, E.er, E.os, E.fo, E.items, E.mode, E.pend, E.foster, E.nl, E.kl, E.ol, E.il, (h2 0).trans E.x0, (h2 2).trans E.x2, ⟨os, (h2 5).trans o1, o2.keep fun i u => ux i (.inl u)⟩, ⟨vs, (h1 _ (aAb v1)).trans v1, v2.keep (fun _ q => q) ux⟩, (h1 _ (aAb E.xd)).trans E.xd, h3, E.gk, E.ge, E.gl, E.gm, E.gh⟩
theorem FinS.lw (E : FinS X β n r f kk dq ks es L M hd) {c : Cell} : FinS (upd X (.lw n) c) β (n + 1) r f kk dq ks es L M hd :=
 E.keep (fun k hf => aA0 (aAc fun e => hf (E.fr k (by exact zn [n, k] (.h 1 (.v 0) (.v 1) .e) (.v 0) (.v 1) rfl (Nat.le_of_eq e.symm)))) rfl) (fun k => aA0 nofun rfl) fun k hk => aA0 (aAc (by exact fun e => (zff (zn [k, n] (.h 1 (.a (.v 1) (.n 1)) (.v 0) (.h 1 (.v 0) (.v 1) .e)) (.n 1) (.n 0) rfl hk (Nat.le_of_eq e))))) (E.fr k (by omega))
theorem aKj : ∀ l : List Str, RdAs H (strL l) (l.map .str)
 | [] => .nil
 | x :: l => .cons .str (aKj l)
theorem aQv {l : List Str} (h : ∀ x ∈ l, so x) : (PyData.list (l.map .str)).canLay0 = true ∧ (PyData.list (l.map .str)).depth ≤ 1 := by
 refine ⟨?_, ?_⟩
 ·rw [PyData.canLay0]
  refine aEo _ fun x hx => ?_
  obtain ⟨a, ha, rfl⟩ := List.mem_map.mp hx
  exact h a ha
 ·rw [PyData.depth]
  have := aCb (n := 0) (l.map PyData.str) fun x hx => by
   obtain ⟨a, ha, rfl⟩ := List.mem_map.mp hx
   simp [PyData.depth]
  omega
theorem aUe {e : Nat} (P : Plain fc_823) (E : FinS X β n r f kk dq ks es L M hd) (he : X (.lw e) = .live (.lst (strL hd))) :
  Exs Γ fc_823 50 (List.drop 33 (bodyS (stAt 75))) (lawR script (some (.ref (.lx 0))) (some (.ref (.lx 1))) sign table part row (some (.ref (.lw kk))) (some (.tup [.str M, .ref (.lw dq)])) (some (.ref .rules)) (some (.ref .bld)) (some (.ref .tree)) (some (.int 3)) token owned node owner (some (.ref (.lw e)))) (BH X β ν) (RetQ QT) := by
 unfold lawR
 nofun
 refine aA6 (.lw n) (aA7 ⟨rfl, E.fr n (Nat.le_refl _), ?_⟩)
 have E1 := E.lw (c := .live (.lst []))
 have he1 : upd X (.lw n) (.live (.lst [])) (.lw e) = .live (.lst (strL hd)) := aA0 (fun q => by rw [q, E.fr n (Nat.le_refl _)] at he; cases he) he
 have hn1 : upd X (.lw n) (.live (.lst [])) (.lw n) = .live (.lst []) := aA2
 rw [aE5]
 generalize upd X (.lw n) (.live (.lst [])) = X1 at E1 he1 hn1 ⊢
 nofun
 refine aVj rfl rfl (by simp) ?_
 refine hZ fun GZ kZ => ?_
 obtain ⟨ps, hp⟩ := E.pend
 have rx : RdA (BH X1 β ν) (.tup [.str β.mode, .ref (.lw e), .ref (.pend (β.pends.length - 1)), .bool β.foster]) (.tuple [.str M, .list (hd.map .str), .list [], .bool false]) := by
  rw [E.mode, E.foster]
  exact .tup (.cons .str (.cons (.lst he1 (aKj hd)) (.cons (.lst (aCv (aIy hp)) .nil) (.cons .bool .nil))))
 have ry : RdA (BH X1 β ν) (.tup ([.str M, .ref (.lw dq)] ++ [.ref (.lw n), .bool false])) (.tuple [.str M, .list (hd.map .str), .list [], .bool false]) :=
  .tup (.cons .str (.cons (.lst E1.xd (aKj hd)) (.cons (.lst hn1 .nil) (.cons .bool .nil))))
 obtain ⟨y1, y2⟩ := aQv E.gh
 have gm : PyData.strOk M = true := E.gm
 have lx : (PyData.tuple [.str M, .list (hd.map .str), .list [], .bool false]).canLay0 = true := by
  simp only [PyData.canLay0, PyData.canLayAll0, gm, Bool.and_true, Bool.true_and]
  simpa [PyData.canLay0] using y1
 have dx : (PyData.tuple [.str M, .list (hd.map .str), .list [], .bool false]).depth ≤ 800 := by
  simp only [PyData.depth, PyData.depthAll] at *
  exact oz206 y2
 refine kZ ?_
 refine ⟨_, aLz rx ry lx lx dx, aA3 ?_⟩
 rw [eqv_refl _ lx]
theorem aUd (P : Plain fc_823) (E : FinS X β n r f kk dq ks es L M hd) :
  Exs Γ fc_823 50 (List.drop 32 (bodyS (stAt 75))) (lawR script (some (.ref (.lx 0))) (some (.ref (.lx 1))) sign table part row (some (.ref (.lw kk))) (some (.tup [.str M, .ref (.lw dq)])) (some (.ref .rules)) (some (.ref .bld)) (some (.ref .tree)) (some (.int 3)) token owned node owner none) (BH X β ν) (RetQ QT) := by
 have il := E.il
 refine aAq (aTw (x := oS "node") (y := oS "held") (cap := [(oS "tree", some (.ref .tree))]) (cl := fc_823.cells) (.lw n) .items (intL β.items) (fun k H1 => H1 = BH (upd X (.lw n) (.live (.lst (strL (hd.take k))))) β ν)
  ⟨fun L => ⋯, rfl, by decide +kernel, by decide +kernel, by decide +kernel, fun L n b hm => hm, fun L => ?_, fun L y v hm => ?_, by simp; decide +kernel⟩ ?_ ?_ ?_ (ρ' := lawR script (some (.ref (.lx 0))) (some (.ref (.lx 1))) sign table part row (some (.ref (.lw kk))) (some (.tup [.str M, .ref (.lw dq)])) (some (.ref .rules)) (some (.ref .bld)) (some (.ref .tree)) (some (.int 3)) token owned node owner (some (.ref (.lw n)))) (by unfold lawR; wtm_at "m.put") ?_ (hsw := fun L => ⋯))
 ·rw [show fc_823.cells L = [(oS "tree", L + 1)] from aHz (L + 1)]; exact List.pairwise_singleton _ _
 ·simp only [List.mem_singleton, Prod.mk.injEq] at hm
  obtain ⟨rfl, rfl⟩ := hm
  exact ⟨_, rfl, (show Get (oS "tree") (.ref .tree) _ by unfold lawR; wtm_at "m.get").mem, ⋯, ⋯, fun b hb => hb⟩
 ·unfold lawR
  nofun
  exact ⟨rfl, rfl, E.fr n (Nat.le_refl _), aE5⟩
 ·rintro k _ rfl; rfl
 ·rintro L k _ u rfl hu
  rw [intL, List.getElem?_map] at hu
  obtain ⟨i, hi, rfl⟩ := Option.map_eq_some_iff.mp hu
  have hkl := (List.getElem?_eq_some_iff.mp hi).1
  have hkd : k < hd.length := by rw [← E.items.1]; exact hkl
  obtain ⟨nd, n1, n2⟩ := E.items.2 k i hd[k] hi (List.getElem?_eq_getElem hkd)
  refine aGe ⋯ fun P2 => ?_
  nofun
  refine ⟨_, aA2, by rw [strL, List.length_map, List.length_take]; exact zn [(min k hd.length), k, β.items.length] (.h 1 (.v 2) (.n 1000) (.h 1 (.a (.v 1) (.n 1)) (.v 2) (.h 1 (.v 0) (.v 1) .e))) (.v 0) (.n 1000000) rfl il hkl (Nat.min_le_left k hd.length), ?_⟩
  have e : strL (hd.take (k + 1)) = strL (hd.take k) ++ [.str hd[k]] := by
   rw [List.take_add_one, List.getElem?_eq_getElem hkd, strL, List.map_append]; rfl
  rw [aE5, aCg, n2, e]
 ·rintro _ rfl
  have e : (intL β.items).length = hd.length := by rw [intL, List.length_map]; exact E.items.1
  rw [e, List.take_of_length_le (Nat.le_refl _)]
  exact aA9 (aUe P E.lw aA2)
end
section
variable {n r f kk dq : Nat} {ks : List Tr} {es : List (Str × Str)} {L : List (List (Str × Str))} {M : Str} {hd : List Str} {script sign table part row token owned node owner : Option AV}
theorem aZ1 {N : List (Int × Int)} (os : ∀ (k : Nat) (p : Int × Int) (a : List (Str × Str)), N[k]? = some p → L[k]? = some a → H (.at p.1.toNat) = .live (.lst (pairL a))) (hl : N.length = L.length) : RdAs H (owV N) (L.map fun a => .tuple [.str sInput, .list (prD a), .str "form"]) := by
 induction N generalizing L with
 | nil =>
  cases L with
  | nil => exact .nil
  | cons a L => cases hl
 | cons p N ih =>
  cases L with
  | nil => cases hl
  | cons a L => exact .cons (.tup (.cons .str (.cons (.lst (os 0 p a rfl rfl) (aBy a)) (.cons .str .nil)))) (ih (fun k q b h1 h2 => os (k + 1) q b h1 h2) (by simpa using hl))
theorem aZn {i : Int} {nd : Node} (h : gN β.nodes i = some nd) : BH X β ν (.at i.toNat) = .live (.lst (pairL nd.attrs)) := by
 have h1 := aB3 h
 unfold gN at h
 rw [if_pos h1.1] at h
 exact aLq h
theorem aLo {H : AH} {i j : Id} {a b : Cell} (h : i ≠ j) : upd (upd H i a) j b = upd (upd H j b) i a := by
 funext q
 unfold upd
 by_cases e : q = i
 ·rw [if_pos e, if_neg (fun e2 => h (e.symm.trans e2)), if_pos e]
 ·rw [if_neg e, if_neg e]
set_option maxHeartbeats 1000000 in
theorem aUc (P : Plain fc_823) (E : FinS X β n r f kk dq ks es L M hd) :
  Exs Γ fc_823 50 (List.drop 29 (bodyS (stAt 75))) (lawR script (some (.ref (.lx 0))) (some (.ref (.lx 1))) sign table part row (some (.ref (.lw kk))) (some (.tup [.str M, .ref (.lw dq)])) (some (.ref .rules)) (some (.ref .bld)) (some (.ref .tree)) (some (.int 3)) token none none none none) (BH X β ν) (RetQ QT) := by
 have ol := E.ol
 unfold lawR
 nofun
 refine aA6 (.lw n) (aA7 ⟨rfl, E.fr n (Nat.le_refl _), ?_⟩)
 have E1 := E.lw (c := .live (.lst []))
 rw [aE5]
 nofun
 refine aAt (fun k ρ H1 => (∃ u1 u2, ρ = [(oS "script", script), (oS "state", some (.ref (.lx 0))), (oS "tokens", some (.ref (.lx 1))), (oS "sign", sign), (oS "table", table), (oS "part", part), (oS "row", row), (oS "kids", some (.ref (.lw kk))), (oS "due", some (.tup [.str M, .ref (.lw dq)])), (oS "rules", some (.ref .rules)), (oS "builder", some (.ref .bld)),
  (oS "tree", some (.ref .tree)), (oS "body", some (.int 3)), (oS "token", token), (oS "owned", some (.ref (.lw n))), (oS "node", u1), (oS "owner", u2), (oS "held", none)]) ∧ H1 = BH (upd (upd X (.lw n) (.live (.lst (owV (β.owners.take k))))) (.lw (n + 1)) (.live (.itm .owners))) β ν) ?_
 refine aPp ?_
 nofun
 refine aPf (.lw (n + 1)) (E1.fr (n + 1) (Nat.le_refl _)) rfl ?_
 rw [aE5]
 refine ⟨_, _, _, _, rfl, aA2, rfl, ⟨⟨_, _, rfl⟩, rfl⟩, ?_, ?_, ?_⟩
 ·rintro k _ _ ⟨_, rfl⟩; rfl
 ·rintro k _ _ u zw0 hu
  refine hZ fun GZ kZ => ?_
  obtain ⟨⟨u1, u2, rfl⟩, rfl⟩ := zw0
  rw [List.getElem?_map, mapI, List.getElem?_map] at hu
  obtain ⟨q, hq, rfl⟩ := Option.map_eq_some_iff.mp hu
  obtain ⟨p, hp, rfl⟩ := Option.map_eq_some_iff.mp hq
  have hkl := (List.getElem?_eq_some_iff.mp hp).1
  have hkL : k < L.length := by rw [← E.os.len]; exact hkl
  obtain ⟨n1, n2, g1, g2, g3, g4, g5⟩ := E.os.at_ k p L[k] hp (List.getElem?_eq_getElem hkL)
  have d1 : Nd β p.1 n1 := Nd.of g1 (by have := E.nl; omega)
  have d2 : Nd β p.2 n2 := Nd.of g4 (by have := E.nl; omega)
  refine kZ ?_
  refine ⟨_, aG9 (xs := [oS "node", oS "owner"]) (.cons (by wtm_at "m.put") (.cons (by wtm_at "m.put") .nil)) (fun env => rfl) (fun env => rfl) (fun env i x hxi => ?_), ?_⟩
  ·match i, hxi with
   | 0, hxi => cases hxi; exact ⟨_, rfl⟩
   | 1, hxi => cases hxi; exact ⟨_, rfl⟩
  have a1 : BH (upd (upd X (.lw n) (.live (.lst (owV (β.owners.take k))))) (.lw (n + 1)) (.live (.itm .owners))) β ν (.lw n) = .live (.lst (owV (β.owners.take k))) := aA0 (aAc (by omega)) aA2
  nofun
  refine aA5 a1 (by rw [owV, List.length_map, List.length_take]; omega) ?_
  nofun
  refine aAd ⟨⟨_, _, rfl⟩, ?_⟩
  have e : owV (β.owners.take (k + 1)) = owV (β.owners.take k) ++ [.tup [.str n1.name, .ref (.at p.1.toNat), .str n2.name]] := by
   rw [List.take_add_one, hp, owV, List.map_append, g2, g5]; rfl
  rw [aE5, e, aLo (aAc (by omega)), aCg, aLo (aAc (by omega))]
 ·rintro _ _ zw0
  obtain ⟨⟨u1, u2, rfl⟩, rfl⟩ := zw0
  have el : ((mapI β.owners).map fun p => AV.tup [.int p.1, p.2]).length = β.owners.length := by rw [List.length_map, mapI, List.length_map]
  rw [el, List.take_of_length_le (Nat.le_refl _)]
  have E2 : FinS (upd (upd X (.lw n) (.live (.lst (owV β.owners)))) (.lw (n + 1)) (.live (.itm .owners))) β (n + 2) r f kk dq ks es L M hd := (E.lw (c := .live (.lst (owV β.owners)))).lw
  have a2 : upd (upd X (.lw n) (.live (.lst (owV β.owners)))) (.lw (n + 1)) (.live (.itm .owners)) (.lw n) = .live (.lst (owV β.owners)) := aA0 (aAc (by omega)) aA2
  generalize upd (upd X (.lw n) (.live (.lst (owV β.owners)))) (.lw (n + 1)) (.live (.itm .owners)) = X2 at E2 a2 ⊢
  nofun
  refine aB9 (show BH X2 β ν (.lx 0) = _ from E2.x0) (.tail _ (.tail _ (.tail _ (.tail _ (.head _))))) ?_
  refine hZ fun GZ kZ => ?_
  obtain ⟨os, o1, o2⟩ := E2.x5
  have rx : RdA (BH X2 β ν) (.ref (.lw n)) (.list (L.map fun a => .tuple [.str sInput, .list (prD a), .str "form"])) := .lst a2 (aZ1 (fun k p a h1 h2 => by
   obtain ⟨n1, _, g1, _, g3, _⟩ := E.os.at_ k p a h1 h2
   rw [← g3]; exact aZn g1) E.os.len)
  have ry : RdA (BH X2 β ν) (.ref (.lx 5)) (.list (L.map fun a => .tuple [.str sInput, .list (prD a), .str "form"])) := .lst o1 (bA1 (o2.keep (H' := BH X2 β ν) fun i u _ => by
   obtain ⟨k, rfl⟩ := u; rfl))
  obtain ⟨lx, dx⟩ := aY5 E.gl
  refine kZ ?_
  refine ⟨_, aDh rx ry lx lx (by omega), ?_⟩
  rw [eqv_refl _ lx]
  nofun
  refine aB9 (show BH X2 β ν (.lx 0) = _ from E2.x0) (.tail _ (.tail _ (.tail _ (.tail _ (.tail _ (.head _)))))) ?_
  have eb : decide (β.form = -1) = decide ((f : Int) = 0) := by
   rw [decide_eq_decide]
   have := E.fo
   exact oz208 this
  repeat' wtm_at "m.xp"
  ·exact aAg (aA9 (aUd P E2))
  ·rename_i hb
   rw [eb] at hb
   simp at hb
set_option maxHeartbeats 1000000 in
theorem aUb (P : Plain fc_823) (E : FinS X β n r f kk dq ks es L M hd) :
  Exs Γ fc_823 50 (List.drop 28 (bodyS (stAt 75))) (lawR script (some (.ref (.lx 0))) (some (.ref (.lx 1))) sign table part row (some (.ref (.lw kk))) (some (.tup [.str M, .ref (.lw dq)])) (some (.ref .rules)) (some (.ref .bld)) (some (.ref .tree)) (some (.int 3)) token none none none none) (BH X β ν) (RetQ QT) := by
 have gb : GT 5 (.el sBody [] ks) := .el (by decide +kernel) (aAm _) aC1 E.gk
 unfold lawR
 nofun
 refine aA4 (d' := 6) (aQh E.nl E.kl 5 _ gb E.fits E.fr fun X1 n1 v x1 ly => ?_) rfl
 have E1 : FinS X1 β n1 r f kk dq ks es L M hd := E.keep (fun k hf => by
  rcases Nat.lt_or_ge k n with q | q
  ·exact x1.lw k q
  ·exact absurd (E.fr k q) hf) x1.lx x1.fr
 nofun
 refine aA6 (.lw (n1 + 1)) (aAi ?_)
 nofun
 refine aA6 (.lw n1) (aA7 ⟨rfl, E1.fr n1 (Nat.le_refl _), ?_⟩)
 rw [aE5]
 have E2 := E1.lw (c := .live (.lst []))
 nofun
 refine ⟨E2.fr (n1 + 1) (Nat.le_refl _), ?_⟩
 rw [aE5]
 have E3 := E2.lw (c := .live (.lst [.str "body", .ref (.lw n1), .ref (.lw kk)]))
 have b1 : upd (upd X1 (.lw n1) (.live (.lst []))) (.lw (n1 + 1)) (.live (.lst [.str "body", .ref (.lw n1), .ref (.lw kk)])) (.lw n1) = .live (.lst []) := aA0 (aAc (by omega)) aA2
 have b2 : upd (upd X1 (.lw n1) (.live (.lst []))) (.lw (n1 + 1)) (.live (.lst [.str "body", .ref (.lw n1), .ref (.lw kk)])) (.lw (n1 + 1)) = .live (.lst [.str "body", .ref (.lw n1), .ref (.lw kk)]) := aA2
 have rx : RdA (BH (upd (upd X1 (.lw n1) (.live (.lst []))) (.lw (n1 + 1)) (.live (.lst [.str "body", .ref (.lw n1), .ref (.lw kk)]))) β ν) v (trD (.el sBody [] ks)) := by
  refine (ly.keep (U' := UP n n1) (fun _ q => q) fun i u hf => ?_).rd
  rcases u with ⟨k, rfl⟩ | ⟨k, k1, k2, rfl⟩
  ·rfl
  ·exact aA0 (aAc (by exact fun e => (zff (zn [n1, k] (.h 1 (.a (.v 1) (.n 1)) (.v 0) (.h 1 (.a (.v 0) (.n 1)) (.v 1) .e)) (.n 1) (.n 0) rfl k2 (Nat.le_of_eq e.symm))))) (aA0 (aAc (by exact oz105 k2)) rfl)
 generalize upd (upd X1 (.lw n1) (.live (.lst []))) (.lw (n1 + 1)) (.live (.lst [.str "body", .ref (.lw n1), .ref (.lw kk)])) = X3 at E3 b1 b2 rx ⊢
 obtain ⟨vs, v1, v2⟩ := E3.xk
 have ry : RdA (BH X3 β ν) (.ref (.lw (n1 + 1))) (trD (.el sBody [] ks)) := .lst b2 (.cons .str (.cons (.lst b1 .nil) (.cons (.lst v1 (v2.keep (H' := BH X3 β ν) (fun _ q => q) fun i u _ => by
  rcases u with ⟨k, rfl⟩ | ⟨k, rfl⟩ <;> rfl).rd) .nil)))
 obtain ⟨lx, dx⟩ := gb.lay
 refine ⟨_, aDh rx ry lx lx (by exact oz210 dx), ?_⟩
 rw [eqv_refl _ lx]
 nofun
 refine aB9 (show BH X3 β ν (.lx 0) = _ from E3.x0) (.tail _ (.head _)) ?_
 have rx : RdA (BH X3 β ν) (.ref .errors) (.list (prD es)) := .lst (show BH X3 β ν .errors = .live (.lst (pairL es)) by rw [← E.er]; rfl) (aBy _)
 have ry : RdA (BH X3 β ν) (.ref (.lx 2)) (.list (prD es)) := .lst E3.x2 (aBy _)
 obtain ⟨lx, dx⟩ := aDa E.ge
 refine ⟨_, aDh rx ry lx lx (by omega), ?_⟩
 rw [eqv_refl _ lx]
 repeat' wtm_at "m.xp"
 exact aAg (aA9 (aUc P E3))
end
section
variable {n r f kk dq : Nat} {ks : List Tr} {es : List (Str × Str)} {L : List (List (Str × Str))} {M : Str} {hd : List Str} {script sign table part row token owned node owner : Option AV} {toks : List AV}
noncomputable abbrev rules0 : List (Str × AV) := [(oS "in table", .glob (.ref 377)), (oS "in table text", .glob (.ref 391))]
theorem aQk (h0 : H .rules = .free) (h : Q (.ref .rules) (upd H .rules (.live (.dcs rules0)))) : Cd Γ 2 (.ref 398) [] H Q := by
 refine aRs fun P => ?_
 refine aEb (aJe .rules (by intro _; rfl) h0 ?_)
 refine aBb ?_
 nofun
 refine aBb ?_
 nofun
 refine aJf ⟨aA2, by decide +kernel, ?_⟩
 rw [aCg]
 exact aA3 h
theorem aZc {X : AH} (hX : ∀ i, (∀ k, i ≠ .lw k) → (∀ k, i ≠ .lx k) → X i = .free) : upd X .rules (.live (.dcs rulesD)) = RH X := by
 funext i
 cases i <;> first | rfl | exact aA0 nofun (hX _ (fun k e => nomatch e) fun k e => nomatch e)
theorem aL0 {i : Id} {es : List (Str × AV)} {k : Str} {v : AV} {Q : AH → Prop} (hi : H i = .live (.dcs es)) (hk : (es.map (·.1)).contains k = false) (hz : Nat.ble es.length 1000 = true) (h : Q (upd H i (.live (.dcs (es ++ [(k, v)]))))) : Si Γ d (.ref i) (.str k) v H Q :=
 aNr hi (.new fun hm => by rwa [List.contains_iff_mem.mpr hm] at hk) (by have := Nat.le_of_ble_eq_true hz; omega) h
theorem aT7 (P : Plain fc_823) (hX : ∀ i, (∀ k, i ≠ .lw k) → (∀ k, i ≠ .lx k) → X i = .free) (ht : X (.lx 1) = .live (.lst toks)) (hF : ∀ e ν, FA Γ X (fun β ν => FinS X β n r f kk dq ks es L M hd) toks (β3 e) ν) :
  Exs Γ fc_823 50 (List.drop 19 (bodyS (stAt 75))) (lawR script (some (.ref (.lx 0))) (some (.ref (.lx 1))) sign table part row (some (.ref (.lw kk))) (some (.tup [.str M, .ref (.lw dq)])) none none none none none none none none none) X (RetQ QT) := by
 unfold lawR
 nofun
 refine aA4 (aQk (hX _ (fun k e => nomatch e) fun k e => nomatch e) ?_) rfl
 nofun
 refine aL0 aA2 (by decide +kernel) rfl ?_
 rw [aCg]
 nofun
 refine aL0 aA2 (by decide +kernel) rfl ?_
 rw [aCg]
 nofun
 refine aL0 aA2 (by decide +kernel) rfl ?_
 rw [aCg]
 nofun
 refine aL0 aA2 (by decide +kernel) rfl ?_
 rw [aCg, show rules0 ++ [(oS "in table body", AV.glob (.ref 759))] ++ [(oS "in row", .glob (.ref 759))] ++ [(oS "in head", .glob (.ref 752))] ++ [(oS "in body", .glob (.ref 745))] = rulesD from rfl, aZc hX]
 nofun
 refine (aM8 ?_).less (by omega)
 nofun
 refine aA4 (aQi fun e ν' => ?_) rfl
 nofun
 refine aAt (fun k ρ H1 => (∃ u, ρ = [(oS "script", script), (oS "state", some (.ref (.lx 0))), (oS "tokens", some (.ref (.lx 1))), (oS "sign", sign), (oS "table", table), (oS "part", part), (oS "row", row), (oS "kids", some (.ref (.lw kk))), (oS "due", some (.tup [.str M, .ref (.lw dq)])), (oS "rules", some (.ref .rules)), (oS "builder", some (.ref .bld)),
  (oS "tree", some (.ref .tree)), (oS "body", some (.int 3)), (oS "token", u), (oS "owned", none), (oS "node", none), (oS "owner", none), (oS "held", none)]) ∧ ∃ β ν, H1 = BH X β ν ∧ FA Γ X (fun β ν => FinS X β n r f kk dq ks es L M hd) (toks.drop k) β ν) ?_
 refine aBf ?_
 nofun
 refine ⟨_, toks, rfl, ht, ⟨⟨_, rfl⟩, _, _, rfl, hF e ν'⟩, ?_, ?_, ?_⟩
 ·rintro k _ _ ⟨_, β, ν, rfl, _⟩; exact ht
 ·rintro k _ _ u ⟨⟨u0, rfl⟩, β, ν, rfl, q⟩ hu
  refine ⟨_, aAv (by wtm_at "m.put"), ?_⟩
  obtain ⟨hk, eu⟩ := List.getElem?_eq_some_iff.mp hu
  rw [List.drop_eq_getElem_cons hk, eu] at q
  nofun
  refine aA4 (d' := 42) (Cd.mono q fun v H' z => ?_) rfl
  obtain ⟨rfl, β2, ν2, rfl, z⟩ := z
  nofun
  exact aAd ⟨⟨_, rfl⟩, β2, ν2, rfl, z⟩
 ·rintro _ _ ⟨⟨u0, rfl⟩, β, ν, rfl, q⟩
  rw [List.drop_length] at q
  exact aUb P q
end
structure FinB (β : BS) (f : Nat) (ks : List Tr) (es : List (Str × Str)) (L : List (List (Str × Str))) (M : Str) (hd : List Str) : Prop where
 fits : Fits β.nodes 1 3 (.el sBody [] ks)
 er : β.errors = es
 os : OwnS β.nodes β.owners L
 fo : β.form = -1 ↔ f = 0
 items : hasNames β hd
 mode : β.mode = M
 pend : ∃ ps, β.pends = ps ++ [[]]
 foster : β.foster = false
 nl : β.nodes.length ≤ 90000
 kl : ∀ i n, gN β.nodes i = some n → n.kids.length ≤ 90000
 ol : β.owners.length ≤ 90000
 il : β.items.length ≤ 1000
theorem FmOk.tr {N : List Node} {S : List Int} {g : Fm} (h : FmOk N S g) (hn : g.nxt = []) : Fits N g.par g.id (.el g.nm g.at_ g.ts) := by
 obtain ⟨n, e1, e2, e3, e4, e5, e6, e7⟩ := h.node
 rw [hn, List.append_nil] at e7
 have z := Fits.el (N := N) (p := g.par) (i := g.id) e1 e6 e2 (ts := g.ts) (by rw [e7]; exact h.fits)
 rw [e4, e5] at z
 exact z
section
variable {fT bd : Fm} {ids idb : List Int} {ts outs : List Tr} {L : List (List (Str × Str))} {m f : Nat} {es : List (Str × Str)} {M : Str}
theorem aMo (D : Dc β (fmT bd ids ts) [] L m) (hm : m ≤ 90000) (hb : bd.nm = sBody) : hasNames β [sHtml, sBody] := by
 have its : β.items = [1, bd.id] := by rw [D.its]; rfl
 refine ⟨by rw [its]; rfl, fun k i x hi hx => ?_⟩
 rw [its] at hi
 obtain ⟨n1, g1, _, _, h1⟩ := D.dn.html
 obtain ⟨n2, g2, _, _, h2, _⟩ := D.node hm (g := fmT bd ids ts) (.head _)
 match k, hi, hx with
 | 0, hi, hx => cases hi; cases hx; exact ⟨n1, Nd.of g1 (by have := D.len; omega), h1⟩
 | 1, hi, hx => cases hi; cases hx; exact ⟨n2, g2, h2.trans hb⟩
theorem aMp (D : Dc β (fmT fT ids ts) [fmT bd idb outs] L m) (hm : m ≤ 90000) (hb : bd.nm = sBody) (ht : fT.nm = sTable) : hasNames β [sHtml, sBody, sTable] := by
 have its : β.items = [1, bd.id, fT.id] := by rw [D.its]; rfl
 refine ⟨by rw [its]; rfl, fun k i x hi hx => ?_⟩
 rw [its] at hi
 obtain ⟨n1, g1, _, _, h1⟩ := D.dn.html
 obtain ⟨n2, g2, _, _, h2, _⟩ := D.node hm (g := fmT bd idb outs) (.tail _ (.head _))
 obtain ⟨n3, g3, _, _, h3, _⟩ := D.node hm (g := fmT fT ids ts) (.head _)
 match k, hi, hx with
 | 0, hi, hx => cases hi; cases hx; exact ⟨n1, Nd.of g1 (by have := D.len; omega), h1⟩
 | 1, hi, hx => cases hi; cases hx; exact ⟨n2, g2, h2.trans hb⟩
 | 2, hi, hx => cases hi; cases hx; exact ⟨n3, g3, h3.trans ht⟩
theorem aOm {fo : Bool} (B : Bdy β bd m ts es L fo) (hm : m ≤ 80000) (h1 : bd.id = 3) (h2 : bd.par = 1) (h3 : bd.nm = sBody) (h4 : bd.at_ = []) (hf : fo = decide (0 < f)) : FinB β f ts es L (oS "in body") [sHtml, sBody] := by
 obtain ⟨ids, D⟩ := B.D
 have t := (D.dn.fm _ (.head _)).tr D.nxt
 have t : Fits β.nodes bd.par bd.id (.el bd.nm bd.at_ ts) := t
 rw [h1, h2, h3, h4] at t
 refine ⟨t, B.es, D.os, B.fo.trans ?_, aMo D (by omega) h3, B.mode, B.pend, B.foster, by have := D.len; omega, fun i n e => by have := (D.kids i n e).1; omega, by have := D.ol; omega, D.ilen⟩
 rw [hf, decide_eq_false_iff_not]; omega
theorem aMn {σ : Sp} (R : Rest β M fT [] bd m σ) (hm : m ≤ 80000) (h1 : bd.id = 3) (h2 : bd.par = 1) (h3 : bd.nm = sBody) (h4 : bd.at_ = []) (h5 : bd.nxt = [fT.id]) (h6 : fT.nm = sTable) (h7 : fT.par = 3) (h8 : fT.at_ = []) (h9 : fT.nxt = []) (hf : σ.fo = decide (0 < f)) :
  FinB β f (σ.outs ++ [.el sTable [] σ.ts]) σ.es σ.L M [sHtml, sBody, sTable] := by
 obtain ⟨ids, idb, D⟩ := R.D
 have D : Dc β (fmT fT ids σ.ts) [fmT bd idb σ.outs] σ.L m := D
 have tt := (D.dn.fm _ (.head _)).tr D.nxt
 have tt : Fits β.nodes fT.par fT.id (.el fT.nm fT.at_ σ.ts) := tt
 rw [h6, h7, h8] at tt
 have kb := D.dn.fm _ (.tail _ (.head _))
 obtain ⟨n, e1, e2, e3, e4, e5, e6, e7⟩ := kb.node
 have t : Fits β.nodes 1 3 (.el sBody [] (σ.outs ++ [.el sTable [] σ.ts])) := by
  have e1 : gN β.nodes bd.id = some n := e1
  have e7 : n.kids = idb ++ bd.nxt := e7
  have f1 : FitsL β.nodes bd.id idb σ.outs := kb.fits
  rw [h1] at e1 f1
  rw [h5] at e7
  have z := Fits.el (N := β.nodes) (p := 1) (i := 3) e1 (e6.trans h2) e2 (ts := σ.outs ++ [.el sTable [] σ.ts]) (by rw [e7]; exact f1.append (.cons tt .nil))
  rw [e4.trans h3, e5.trans h4] at z
  exact z
 refine ⟨t, R.es, D.os, R.fo.trans ?_, aMp D (by omega) h3 h6, R.mode, R.pend, R.foster, by have := D.len; omega, fun i n e => by have := (D.kids i n e).1; omega, by have := D.ol; omega, D.ilen⟩
 rw [hf, decide_eq_false_iff_not]; omega
end
section
variable {D : Nat → Int} {P : BS → Nat → Prop}
noncomputable abbrev tabT (s : LS) : Tr := .el sTable [] s.ts
theorem aWq {e : Nat} (h : ∀ β' ν', FinB β' (lw5 D).forms ((lw5 D).outs ++ [tabT (lw5 D)]) ((lw5 D).es ++ [(oS "unexpected-eof", oS "in table")]) (lw5 D).ow (oS "in table") [sHtml, sBody, sTable] → P β' ν') : FA Γ X P ((lw5 D).toks ++ [eofTok]) (β3 e) ν := by
 rw [aAk]
 refine aT8 fun β1 ν1 fT σ g gp c h1 h2 h3 h4 => aWr gp fun β2 ν2 R => faq (h β2 ν2 ?_)
 have k := aMn (f := (lw5 D).forms) R (by omega) rfl rfl rfl rfl rfl h1 h2 h4 h3 c.fo
 have k : FinB β2 (lw5 D).forms ((flushS σ g).outs ++ [.el sTable [] (flushS σ g).ts]) ((flushS σ g).es ++ [(oS "unexpected-eof", oS "in table")]) (flushS σ g).L (oS "in table") [sHtml, sBody, sTable] := k
 rw [c.outs, c.ts, c.es, c.L] at k
 exact k
theorem aWp {e : Nat} (h : ∀ β' ν', FinB β' (lw5 D).forms ((sigL (D 16)).foldl putN ((lw5 D).outs ++ [tabT (lw5 D)])) (lw5 D).es (lw5 D).ow (oS "in body") [sHtml, sBody] → P β' ν') : FA Γ X P ((lw5 D).toks ++ [endTok sTable] ++ chL (sigL (D 16))) (β3 e) ν := by
 have z := sgs (D 16)
 have z0 := z.1
 rw [List.append_assoc, aAk]
 refine aT8 fun β1 ν1 fT σ g gp c h1 h2 h3 h4 => ?_
 rw [aAk]
 refine aK6 gp h1 rfl h2 rfl rfl fun β2 ν2 B => faq (aK4 (sigL (D 16)) B (by exact oz211 z) z.2 fun β3 ν3 B3 => h β3 ν3 ?_)
 rw [c.outs, c.ts, c.es, c.L, h1, h4] at B3
 exact aOm (f := (lw5 D).forms) B3 (by exact oz212 z) rfl rfl rfl rfl c.fo
end
section
variable {w : Id} {n r j : Nat} {s : LS} {M : Str}
theorem aDe : ∀ (l : List Str) (s : LS), (readS s l).inn = s.inn
 | [], s => rfl
 | x :: l, s => aDe l (read1 s x)
theorem aF0 {s : LS} : (settleS s).inn = s.inn := by
 unfold settleS; split <;> rfl
theorem aBs {kk : KK} {nm : Str} {at_ : List (Str × Str)} {cl : Bool} : (startS s kk nm at_ cl).inn = s.inn := by
 unfold startS
 cases kk <;> (simp only []; split <;> rfl)
theorem aMt {t : Thing} : (thingS M s t).inn = s.inn := by
 cases t with
 | hidden x => exact aBs
 | form cl => exact aBs
 | head nm => exact aBs
 | input at_ => exact aBs
 | br => exact aBs
 | _ => rfl
theorem aD7 {l1 l2 : List Str} {number : Int} : (gapS M s l1 number l2).inn = s.inn := by
 rw [gapS, aF0, aDe]
 unfold midS
 split
 ·rw [aMt, aF0, aDe]
 ·rw [aDe]
theorem LawH.turn {w' : Id} {H' : AH} {vs : List AV} {ts : List Tr} {L : List Nat} (S : LawH w H n r j s) (hw : w' = .lx 6 ∨ w' = .lx 7 ∨ w' = .lx 8) (A : ∀ i, i ≠ w → H' i = H i) (h1 : H' w' = .live (.lst vs)) (h2 : LyTs (UI L w') H' vs ts) (h3 : ts.length ≤ n) (h4 : TxOk n ts) : LawH w' H' n r j { s with ts := ts, inn := L } := by
 have rj := S.rj
 refine hZ fun GZ kZ => ?_
 obtain ⟨a1, a2, a3, a4, a5, a6, a7⟩ := S.sz
 have u0 : ∀ i, U0 i → H i ≠ .free → H' i = H i := by
  rintro _ ⟨k, rfl⟩ _
  exact A _ fun e => S.wlw e.symm
 have x : ∀ k, k ≠ 6 ∧ k ≠ 7 ∧ k ≠ 8 → H' (.lx k) = H (.lx k) := fun k hk => A _ fun e => S.wne hk e.symm
 obtain ⟨v4, e4, l4⟩ := S.outs
 obtain ⟨o5, e5, l5⟩ := S.ow
 refine kZ ?_
 exact ⟨(x 0 (by omega)).trans S.d, (x 1 (by omega)).trans S.toks, (x 2 (by omega)).trans S.es, (x r (by exact oz78 rj)).trans S.run, ⟨v4, (x 4 (by omega)).trans e4, l4.keep (fun _ q => q) u0⟩, ⟨o5, (x 5 (by omega)).trans e5, l5.keep u0⟩, ⟨vs, h1, h2⟩, fun k hk => (A _ fun e => S.wlw e.symm).trans (S.fr k hk), fun k hk => (x k (by exact oz81 rj hk)).trans (S.fx k hk), fun i a b => (A i fun e => by
  rcases S.ww with q | q | q <;> exact b _ (e.trans q)).trans (S.oth i a b), hw, S.rj, ⟨a1, a2, a3, a4, a5, h3, a7⟩, ⟨S.tx.1, h4⟩⟩
structure Tb (H : AH) : Prop where
 t : H (.lw 4) = .live (.lst [.str sTable, .ref (.lw 5), .ref (.lx 6)])
 t5 : H (.lw 5) = .live (.lst [])
 p : H (.lw 6) = .live (.lst [.str sTbody, .ref (.lw 7), .ref (.lx 7)])
 p7 : H (.lw 7) = .live (.lst [])
 r : H (.lw 8) = .live (.lst [.str sTr, .ref (.lw 9), .ref (.lx 8)])
 r9 : H (.lw 9) = .live (.lst [])
theorem Tb.keep {H' : AH} (T : Tb H) (k : ∀ i, U0 i → H i ≠ .free → H' i = H i) : Tb H' :=
 ⟨(k _ ⟨_, rfl⟩ (aAb T.t)).trans T.t, (k _ ⟨_, rfl⟩ (aAb T.t5)).trans T.t5, (k _ ⟨_, rfl⟩ (aAb T.p)).trans T.p, (k _ ⟨_, rfl⟩ (aAb T.p7)).trans T.p7, (k _ ⟨_, rfl⟩ (aAb T.r)).trans T.r, (k _ ⟨_, rfl⟩ (aAb T.r9)).trans T.r9⟩
structure Wt (x : Id) (H : AH) (vs : List AV) (ts : List Tr) (v : AV) : Prop where
 at_ : H x = .live (.lst (vs ++ [v]))
 ly : LyTs U0 H vs ts
theorem Wt.keep {x : Id} {H' : AH} {vs : List AV} {ts : List Tr} {v : AV} (W : Wt x H vs ts v) (k : ∀ i, U0 i ∨ i = x → H i ≠ .free → H' i = H i) : Wt x H' vs ts v :=
 ⟨(k x (.inr rfl) (aAb W.at_)).trans W.at_, W.ly.keep (fun _ q => q) fun i u => k i (.inl u)⟩
theorem FrW.wt {x : Id} {H' : AH} (F : FrW w H H') (hx : x = .lx 6 ∨ x = .lx 7 ∨ x = .lx 8) (ne : x ≠ w) : ∀ i, U0 i ∨ i = x → H i ≠ .free → H' i = H i := by
 rintro i (u | rfl) hf
 ·exact F.u0 i u hf
 ·exact F i (.inr ⟨hx, ne⟩) hf
theorem aZe {x y : Id} {c : Cell} (h1 : x ≠ y) (h2 : ∀ k, y ≠ .lw k) : ∀ i, U0 i ∨ i = x → H i ≠ .free → upd H y c i = H i := by
 rintro i (⟨k, rfl⟩ | rfl) _
 ·exact aA0 (Ne.symm (h2 k)) rfl
 ·exact aA0 h1 rfl
theorem aJ6 {x i : Id} (h : UI [] x i) : U0 i := by
 rcases h with h | ⟨⟨k, hk, _⟩, _⟩
 ·exact h
 ·cases hk
def UT (i : Id) : Prop := U0 i ∨ i = .lx 6 ∨ i = .lx 7 ∨ i = .lx 8
theorem bA3 {L : List Nat} {x i : Id} (hL : ∀ k ∈ L, k = 7 ∨ k = 8) (h : UI L x i) : UT i := by
 rcases h with h | ⟨⟨k, hk, rfl⟩, _⟩
 ·exact .inl h
 ·rcases hL k hk with rfl | rfl
  ·exact .inr (.inr (.inl rfl))
  ·exact .inr (.inr (.inr rfl))
theorem bA4 {i : Id} (h : UT i) : UX i := by
 rcases h with ⟨k, rfl⟩ | rfl | rfl | rfl
 ·exact .inl ⟨k, rfl⟩
 ·exact .inr ⟨6, rfl⟩
 ·exact .inr ⟨7, rfl⟩
 ·exact .inr ⟨8, rfl⟩
theorem LyTs.alive {U : Id → Prop} {H : AH} {vs : List AV} {ts : List Tr} (h : LyTs U H vs ts) : LyTs (fun i => U i ∧ H i ≠ .free) H vs ts :=
 @LyTs.rec U H (fun v t _ => LyT (fun i => U i ∧ H i ≠ .free) H v t) (fun vs ts _ => LyTs (fun i => U i ∧ H i ≠ .free) H vs ts) .lf (fun u1 u2 u3 hn h1 h2 h3 _ r => .el ⟨u1, aAb h1⟩ ⟨u2, aAb h2⟩ ⟨u3, aAb h3⟩ hn h1 h2 h3 r) .nil (fun _ _ a b => .cons a b) _ _ h
theorem LyTs.append {U : Id → Prop} {vs us : List AV} {ts rs : List Tr} (a : LyTs U H vs ts) (b : LyTs U H us rs) : LyTs U H (vs ++ us) (ts ++ rs) := by
 induction vs generalizing ts with
 | nil => cases a; exact b
 | cons v vs ih => cases a with | cons x a => exact .cons x (ih a)
theorem aUx (S : LawH (.lx 6) H n r j s) (T : Tb H) (hi : s.inn = [7, 8]) : ∃ vs, H (.lx 4) = .live (.lst vs) ∧ vs.length ≤ n ∧ LyTs (fun i => UT i ∧ H i ≠ .free) H (vs ++ [.ref (.lw 4)]) (s.outs ++ [tabT s]) := by
 obtain ⟨vs, e, l⟩ := S.outs
 obtain ⟨v6, e6, l6⟩ := S.ts
 rw [hi] at l6
 refine ⟨vs, e, by rw [l.len]; exact S.sz.2.2.2.1, (LyTs.append (U := UT) (l.keep (fun i u => .inl u) fun _ _ _ => rfl) (.cons (.el (.inl ⟨4, rfl⟩) (.inl ⟨5, rfl⟩) (.inr (.inl rfl)) (by decide +kernel) T.t (show H (.lw 5) = .live (.lst (pairL [])) from T.t5) e6 (l6.keep (fun i u => bA3 (fun k hk => ?_) u) fun _ _ _ => rfl)) .nil)).alive⟩
 simpa using hk
theorem aTb {Hp H' : AH} {kk dq n' : Nat} {ks : List Tr} {es : List (Str × Str)} {hd : List Str} {M : Str} {vs : List AV} (B : FinB β s.forms ks es s.ow M hd) (S : LawH w Hp n r j s) (A : ∀ i, Hp i ≠ .free → i ≠ .lx 1 → i ≠ .lx 2 → H' i = Hp i) (h2 : H' (.lx 2) = .live (.lst (pairL es)))
  (hk : H' (.lw kk) = .live (.lst vs)) (ly : LyTs (fun i => UT i ∧ Hp i ≠ .free) H' vs ks) (hd' : H' (.lw dq) = .live (.lst (strL hd))) (fr : ∀ k, n' ≤ k → H' (.lw k) = .free) (gk : ∀ t ∈ ks, GT 4 t) (ge : sos es) (gl : ∀ a ∈ s.ow, sos a) (gm : so M) (gh : ∀ x ∈ hd, so x) : FinS H' β n' r s.forms kk dq ks es s.ow M hd := by
 obtain ⟨os, e5, l5⟩ := S.ow
 exact ⟨B.fits, B.er, B.os, B.fo, B.items, B.mode, B.pend, B.foster, B.nl, B.kl, B.ol, B.il, (A _ (aAb S.d) (by decide) (by decide)).trans S.d, h2, ⟨os, (A _ (aAb e5) (by decide) (by decide)).trans e5, l5.keep fun i u hf => A i hf (by obtain ⟨k, rfl⟩ := u; exact fun e => nomatch e) (by obtain ⟨k, rfl⟩ := u; exact fun e => nomatch e)⟩,
  ⟨vs, hk, ly.keep (fun i u => bA4 u.1) fun _ _ _ => rfl⟩, hd', fr, gk, ge, gl, gm, gh⟩
end
section
variable {n r j : Nat} {a : Addr} {ns : List Int} {sign part row : Option AV}
theorem aOu : ∀ t ∈ (lw5 (digI ns)).outs ++ [tabT (lw5 (digI ns))], GT 4 t := aF3 (fun t ht => (aFz.outs t ht).mono (by omega)) (.el (by decide +kernel) (aAm _) aC1 aFz.ts)
theorem aZ6 : ∀ x ∈ [sHtml, sBody], so x := by
 intro x hx
 simp only [List.mem_cons, List.not_mem_nil, or_false] at hx
 rcases hx with rfl | rfl <;> exact aAm _
theorem aZ7 : ∀ x ∈ [sHtml, sBody, sTable], so x := by
 intro x hx
 simp only [List.mem_cons, List.not_mem_nil, or_false] at hx
 rcases hx with rfl | rfl | rfl <;> exact aAm _
theorem putNs2 {l : List Str} (h : ∀ x ∈ l, x.length = 1) {ts : List Tr} {m : Nat} (t : TxOk m ts) : ∀ (k : Nat), ((l.take k).foldl putN ts).length ≤ ts.length + k ∧ TxOk (m + k) ((l.take k).foldl putN ts)
 | 0 => ⟨Nat.le_refl _, t⟩
 | k + 1 => by
  obtain ⟨i1, i2⟩ := putNs2 h t k
  cases e : l[k]? with
  | none =>
   rw [List.take_add_one, e]
   simp only [Option.toList, List.append_nil]
   exact ⟨by exact oz213 i1, i2.mono (by omega)⟩
  | some x =>
   rw [aCf e]
   exact ⟨Nat.le_trans aLk (by exact oz214 i1), aP3 i2 (by rw [h x (List.mem_of_getElem? e)]; omega)⟩
theorem aSv {i : Id} (h : UT i) : i ≠ .lx 1 ∧ i ≠ .lx 2 := by
 rcases h with ⟨k, rfl⟩ | rfl | rfl | rfl
 ·exact ⟨fun e => (nomatch e), fun e => nomatch e⟩
 all_goals exact ⟨by decide, by decide⟩
set_option maxHeartbeats 4000000 in
theorem aUl (P : Plain fc_823) (c : Scr Γ.h₀ a ns) (S : LawH (.lx 6) H n r j (lw5 (digI ns))) (T : Tb H) (hi : (lw5 (digI ns)).inn = [7, 8]) (hz : n ≤ 60000) :
  Exs Γ fc_823 50 (List.drop 16 (bodyS (stAt 75))) (lawR (some (.glob (.ref a))) (some (.ref (.lx 0))) (some (.ref (.lx 1))) sign (some (.ref (.lw 4))) part row none none none none none none none none none none none) H (RetQ QT) := by
 obtain ⟨vs, e4, lv, lk⟩ := aUx S T hi
 have tl : (lw5 (digI ns)).toks.length ≤ n := S.sz.1
 have el : (lw5 (digI ns)).es.length ≤ n := S.sz.2.1
 unfold lawR
 nofun
 refine aA6 (.lw n) (aAi ?_)
 nofun
 refine ⟨S.fr _ (Nat.le_refl _), ?_⟩
 nofun
 refine aSz (.lw (n + 1)) (aA0 nofun e4) aA2 (aA0 (aAc (by omega)) (S.fr _ (Nat.le_succ _))) (by simp only [List.length_cons, List.length_nil]; omega) ?_
 nofun
 refine aA6 (.lw (n + 2)) (aAi ?_)
 nofun
 refine ⟨aA0 (aAc (by omega)) (aA0 (aAc (by omega)) (S.fr _ (by omega))), ?_⟩
 have A3 : ∀ i, H i ≠ .free → upd (upd (upd H (.lw n) (.live (.lst [.ref (.lw 4)]))) (.lw (n + 1)) (.live (.lst (vs ++ [.ref (.lw 4)])))) (.lw (n + 2)) (.live (.lst [.str "html", .str "body"])) i = H i := by
  intro i hf
  have ne : ∀ k, n ≤ k → i ≠ .lw k := fun k hk e => hf (e ▸ S.fr k hk)
  exact aA0 (ne _ (by omega)) (aA0 (ne _ (by omega)) (aA0 (ne _ (by omega)) rfl))
 have k3 : upd (upd (upd H (.lw n) (.live (.lst [.ref (.lw 4)]))) (.lw (n + 1)) (.live (.lst (vs ++ [.ref (.lw 4)])))) (.lw (n + 2)) (.live (.lst [.str "html", .str "body"])) (.lw (n + 1)) = .live (.lst (vs ++ [.ref (.lw 4)])) := aA0 (aAc (by omega)) aA2
 have d3 : upd (upd (upd H (.lw n) (.live (.lst [.ref (.lw 4)]))) (.lw (n + 1)) (.live (.lst (vs ++ [.ref (.lw 4)])))) (.lw (n + 2)) (.live (.lst [.str "html", .str "body"])) (.lw (n + 2)) = .live (.lst (strL [sHtml, sBody])) := aA2
 have f3 : ∀ k, n + 3 ≤ k → upd (upd (upd H (.lw n) (.live (.lst [.ref (.lw 4)]))) (.lw (n + 1)) (.live (.lst (vs ++ [.ref (.lw 4)])))) (.lw (n + 2)) (.live (.lst [.str "html", .str "body"])) (.lw k) = .free := fun k hk => aA0 (aAc (by exact fun e => (zff (zn [k, n] (.h 1 (.a (.v 1) (.n 3)) (.v 0) (.h 1 (.v 0) (.a (.v 1) (.n 2)) .e)) (.n 1) (.n 0) rfl hk (Nat.le_of_eq e))))) (aA0 (aAc (by exact fun e => (zff (zn [k, n] (.h 1 (.a (.v 1) (.n 3)) (.v 0) (.h 1 (.v 0) (.a (.v 1) (.n 1)) .e)) (.n 1) (.n 0) rfl hk (Nat.le_of_eq e))))) (aA0 (aAc (by exact fun e => (zff (zn [k, n] (.h 1 (.a (.v 1) (.n 3)) (.v 0) (.h 1 (.v 0) (.v 1) .e)) (.n 1) (.n 0) rfl hk (Nat.le_of_eq e))))) (S.fr k (by omega))))
 have o3 : ∀ i, (∀ k, i ≠ .lw k) → (∀ k, i ≠ .lx k) → upd (upd (upd H (.lw n) (.live (.lst [.ref (.lw 4)]))) (.lw (n + 1)) (.live (.lst (vs ++ [.ref (.lw 4)])))) (.lw (n + 2)) (.live (.lst [.str "html", .str "body"])) i = .free := fun i h1 h2 => aA0 (h1 _) (aA0 (h1 _) (aA0 (h1 _) (S.oth i h1 h2)))
 generalize upd (upd (upd H (.lw n) (.live (.lst [.ref (.lw 4)]))) (.lw (n + 1)) (.live (.lst (vs ++ [.ref (.lw 4)])))) (.lw (n + 2)) (.live (.lst [.str "html", .str "body"])) = H3 at A3 k3 d3 f3 o3 ⊢
 have t3 := (A3 _ (aAb S.toks)).trans S.toks
 have e3 := (A3 _ (aAb S.es)).trans S.es
 have s3 := (A3 _ (aAb S.d)).trans S.d
 nofun
 refine aA4 (aFs (k := 17) c rfl (by omega) ?_) rfl
 repeat' wtm_at "m.xp"
 ·-- the text ends
  nofun
  refine aA5 t3 (by omega) ?_
  have A4 : ∀ i, i ≠ .lx 1 → upd H3 (.lx 1) (.live (.lst ((lw5 (digI ns)).toks ++ [.tup [.str "eof"]]))) i = H3 i := fun i h => aA0 h rfl
  have t4 : upd H3 (.lx 1) (.live (.lst ((lw5 (digI ns)).toks ++ [.tup [.str "eof"]]))) (.lx 1) = .live (.lst ((lw5 (digI ns)).toks ++ [eofTok])) := aA2
  generalize upd H3 (.lx 1) (.live (.lst ((lw5 (digI ns)).toks ++ [.tup [.str "eof"]]))) = H4 at A4 t4 ⊢
  have e4 := (A4 (.lx 2) (by decide)).trans e3
  have s4 := (A4 (.lx 0) (by decide)).trans s3
  nofun
  refine aB9 s4 (.tail _ (.head _)) ?_
  nofun
  refine aA5 e4 (by rw [pairL, List.length_map]; omega) ?_
  have A5 : ∀ i, i ≠ .lx 2 → upd H4 (.lx 2) (.live (.lst (pairL (lw5 (digI ns)).es ++ [.tup [.str "unexpected-eof", .str "in table"]]))) i = H4 i := fun i h => aA0 h rfl
  have e5 : upd H4 (.lx 2) (.live (.lst (pairL (lw5 (digI ns)).es ++ [.tup [.str "unexpected-eof", .str "in table"]]))) (.lx 2) = .live (.lst (pairL ((lw5 (digI ns)).es ++ [(oS "unexpected-eof", oS "in table")]))) := aA2.trans (by simp [pairL, pairA])
  generalize upd H4 (.lx 2) (.live (.lst (pairL (lw5 (digI ns)).es ++ [.tup [.str "unexpected-eof", .str "in table"]]))) = H5 at A5 e5 ⊢
  have AA : ∀ i, i ≠ .lx 1 → i ≠ .lx 2 → H5 i = H3 i := fun i h1 h2 => (A5 i h2).trans (A4 i h1)
  have f5 : ∀ k, n + 3 ≤ k → H5 (.lw k) = .free := fun k hk => (AA (.lw k) nofun fun e => nomatch e).trans (f3 k hk)
  nofun
  refine aA6 (.lw (n + 3)) (aAi ?_)
  nofun
  refine ⟨f5 _ (Nat.le_refl _), ?_⟩
  iterate 3 wtm_at "m.xp"
  have A6 : ∀ i, H i ≠ .free → i ≠ .lx 1 → i ≠ .lx 2 → upd H5 (.lw (n + 3)) (.live (.lst [.str "html", .str "body", .str "table"])) i = H i := fun i hf h1 h2 => aA0 (fun e => hf (e ▸ S.fr _ (by omega))) ((AA i h1 h2).trans (A3 i hf))
  have K6 : upd H5 (.lw (n + 3)) (.live (.lst [.str "html", .str "body", .str "table"])) (.lw (n + 1)) = .live (.lst (vs ++ [.ref (.lw 4)])) := aA0 (aAc (by omega)) ((AA (.lw (n + 1)) nofun fun e => nomatch e).trans k3)
  have D6 : upd H5 (.lw (n + 3)) (.live (.lst [.str "html", .str "body", .str "table"])) (.lw (n + 3)) = .live (.lst (strL [sHtml, sBody, sTable])) := aA2
  have F6 : ∀ k, n + 4 ≤ k → upd H5 (.lw (n + 3)) (.live (.lst [.str "html", .str "body", .str "table"])) (.lw k) = .free := fun k hk => aA0 (aAc (by exact fun e => (zff (zn [k, n] (.h 1 (.a (.v 1) (.n 4)) (.v 0) (.h 1 (.v 0) (.a (.v 1) (.n 3)) .e)) (.n 1) (.n 0) rfl hk (Nat.le_of_eq e))))) (f5 k (by omega))
  have O6 : ∀ i, (∀ k, i ≠ .lw k) → (∀ k, i ≠ .lx k) → upd H5 (.lw (n + 3)) (.live (.lst [.str "html", .str "body", .str "table"])) i = .free := fun i h1 h2 => aA0 (h1 _) ((AA i (h2 _) (h2 _)).trans (o3 i h1 h2))
  have T6 : upd H5 (.lw (n + 3)) (.live (.lst [.str "html", .str "body", .str "table"])) (.lx 1) = .live (.lst ((lw5 (digI ns)).toks ++ [eofTok])) := aA0 nofun ((A5 (.lx 1) (by decide)).trans t4)
  have E6 : upd H5 (.lw (n + 3)) (.live (.lst [.str "html", .str "body", .str "table"])) (.lx 2) = .live (.lst (pairL ((lw5 (digI ns)).es ++ [(oS "unexpected-eof", oS "in table")]))) := aA0 nofun e5
  generalize upd H5 (.lw (n + 3)) (.live (.lst [.str "html", .str "body", .str "table"])) = H6 at A6 K6 D6 F6 O6 T6 E6 ⊢
  refine aAg (aA9 (aT7 P O6 T6 fun e ν => aWq fun β' ν' B => aTb B S A6 E6 K6 (lk.keep (fun _ q => q) fun i u _ => A6 i u.2 (aSv u.1).1 (aSv u.1).2) D6 F6 aOu (aCr aFz.es (aAm _) (aAm _)) aFz.ow (aAm _) aZ7))
 ·-- the table ends, signs behind it
  nofun
  refine aA5 t3 (by omega) ?_
  have A4 : ∀ i, i ≠ .lx 1 → upd H3 (.lx 1) (.live (.lst ((lw5 (digI ns)).toks ++ [endTok sTable]))) i = H3 i := fun i h => aA0 h rfl
  have t4 : upd H3 (.lx 1) (.live (.lst ((lw5 (digI ns)).toks ++ [endTok sTable]))) (.lx 1) = .live (.lst ((lw5 (digI ns)).toks ++ [endTok sTable])) := aA2
  change DropV .none (Exs _ _ _ _ _ (upd H3 (.lx 1) (.live (.lst ((lw5 (digI ns)).toks ++ [endTok sTable])))) _)
  generalize upd H3 (.lx 1) (.live (.lst ((lw5 (digI ns)).toks ++ [endTok sTable]))) = H4 at A4 t4 ⊢
  have f4 : ∀ k, n + 3 ≤ k → H4 (.lw k) = .free := fun k hk => (A4 (.lw k) nofun).trans (f3 k hk)
  have k4 := (A4 (.lw (n + 1)) nofun).trans k3
  have l4 := aC0 (k := digI ns 16)
  have l1 := aCp (k := digI ns 16)
  have tx0 : TxOk n ((lw5 (digI ns)).outs ++ [tabT (lw5 (digI ns))]) := S.tx.1.snoc fun a x e => nomatch e
  have ol : ((lw5 (digI ns)).outs ++ [tabT (lw5 (digI ns))]).length ≤ n + 1 := by
   rw [List.length_append]; exact Nat.succ_le_succ S.sz.2.2.2.1
  have ly4 : LyTs (fun i => UT i ∧ H i ≠ .free) H4 (vs ++ [.ref (.lw 4)]) ((lw5 (digI ns)).outs ++ [tabT (lw5 (digI ns))]) := lk.keep (fun _ q => q) fun i u _ => (A4 i (aSv u.1).1).trans (A3 i u.2)
  repeat' wtm_at "m.xp"
  generalize hl : sigL (digI ns 16) = l at l4 l1
  refine aAt (fun k ρ H7 => k ≤ l.length ∧ (∃ u, ρ = [(oS "script", some (.glob (.ref a))), (oS "state", some (.ref (.lx 0))), (oS "tokens", some (.ref (.lx 1))), (oS "sign", u), (oS "table", some (.ref (.lw 4))), (oS "part", part), (oS "row", row), (oS "kids", some (.ref (.lw (n + 1)))), (oS "due", some (.tup [.str "in body", .ref (.lw (n + 2))])), (oS "rules", none), (oS "builder", none),
   (oS "tree", none), (oS "body", none), (oS "token", none), (oS "owned", none), (oS "node", none), (oS "owner", none), (oS "held", none)]) ∧
   H7 (.lx 1) = .live (.lst ((lw5 (digI ns)).toks ++ [endTok sTable] ++ chL (l.take k))) ∧ (∃ kv, H7 (.lw (n + 1)) = .live (.lst kv) ∧ LyTs (fun i => UT i ∧ H i ≠ .free) H7 kv ((l.take k).foldl putN ((lw5 (digI ns)).outs ++ [tabT (lw5 (digI ns))]))) ∧ H7 (.lw (n + 3)) = .live (.lst (strL l)) ∧
   ∀ i, i ≠ .lx 1 → i ≠ .lw (n + 1) → i ≠ .lw (n + 3) → i ≠ .lw (n + 4) → H7 i = H4 i) ?_
  refine aBf ?_
  nofun
  refine aA4 (aFs (k := 16) c rfl (by omega) ?_) rfl
  nofun
  refine aA4 (aD4 (n := n + 3) (f4 _ (by omega)) (f4 _ (by omega)) fun H7 g7 o7 => ?_) rfl
  rw [hl] at g7
  refine ⟨_, _, rfl, g7, ⟨Nat.zero_le _, ⟨_, rfl⟩, ?_, ⟨_, (o7 (.lw (n + 1)) (aAc (by omega)) (aAc (by omega))).trans k4, ?_⟩, g7, fun i _ _ b c => o7 i b c⟩, fun k ρ H8 q => q.2.2.2.2.1, ?_, ?_⟩
  ·rw [o7 (.lx 1) nofun nofun, t4]; simp [chL]
  ·exact ly4.keep (fun _ q => q) fun i u _ => o7 i (fun e => u.2 (e ▸ S.fr _ (by omega))) (fun e => u.2 (e ▸ S.fr _ (by exact zn [n] .e (.v 0) (.a (.a (.v 0) (.n 3)) (.n 1)) rfl)))
  ·rintro k _ H8 u zw0 hu
   refine hZ fun GZ kZ => ?_
   obtain ⟨hk, ⟨u0, rfl⟩, t8, ⟨kv, c8, ly8⟩, g8, o8⟩ := zw0
   obtain ⟨x, rfl, hx⟩ := aC3 hu
   have x3 : k < l.length := (List.getElem?_eq_some_iff.mp hx).1
   obtain ⟨p1, p2⟩ := putNs2 l1 tx0 k
   have x1 := l1 x (List.mem_of_getElem? hx)
   refine kZ ?_
   refine ⟨_, aAv (by wtm_at "m.put"), ?_⟩
   nofun
   refine aA5 t8 (by simp only [List.length_append, chL, List.length_map, List.length_take, List.length_cons, List.length_nil]; exact oz220 hz tl l4) ?_
   have A9 : ∀ i, i ≠ .lx 1 → upd H8 (.lx 1) (.live (.lst ((lw5 (digI ns)).toks ++ [endTok sTable] ++ chL (l.take k) ++ [chTok x]))) i = H8 i := fun i h => aA0 h rfl
   have t9 : upd H8 (.lx 1) (.live (.lst ((lw5 (digI ns)).toks ++ [endTok sTable] ++ chL (l.take k) ++ [chTok x]))) (.lx 1) = .live (.lst ((lw5 (digI ns)).toks ++ [endTok sTable] ++ chL (l.take k) ++ [chTok x])) := aA2
   change DropV .none (Exs _ _ _ _ _ (upd H8 (.lx 1) (.live (.lst ((lw5 (digI ns)).toks ++ [endTok sTable] ++ chL (l.take k) ++ [chTok x])))) _)
   generalize upd H8 (.lx 1) (.live (.lst ((lw5 (digI ns)).toks ++ [endTok sTable] ++ chL (l.take k) ++ [chTok x]))) = H9 at A9 t9 ⊢
   have c9 := (A9 (.lw (n + 1)) nofun).trans c8
   nofun
   refine aA4 (aI9 (q := .lw (n + 1)) c9 (ly8.keep (fun _ q => q) fun i u _ => A9 i (aSv u.1).1) (by rw [ly8.len]; exact oz221 hz ol l4 x3 p1) (p2.mono (by omega)) (by omega) fun vs' ly hv => ?_) rfl
   refine aAj (aAg (aAd ⟨x3, ⟨_, rfl⟩, ?_, ⟨vs', aA2, ?_⟩, ?_, fun i a b c d => ?_⟩))
   ·rw [aGj hx, ← List.append_assoc]
    exact aA0 nofun t9
   ·rw [aCf hx]
    exact ly.keep (fun _ q => q) fun i u _ => aA0 (fun e => u.2 (e ▸ S.fr _ (by omega))) rfl
   ·exact aA0 (aAc (by omega)) ((A9 (.lw (n + 3)) nofun).trans g8)
   ·exact aA0 b ((A9 i a).trans (o8 i a b c d))
  ·rintro _ H8 zw0
   refine hZ fun GZ kZ => ?_
   obtain ⟨hk, ⟨u0, rfl⟩, t8, ⟨kv, c8, ly8⟩, g8, o8⟩ := zw0
   have len : (strL l).length = l.length := by rw [strL, List.length_map]
   rw [len, List.take_of_length_le (Nat.le_refl _)] at t8 ly8
   have A8 : ∀ i, H i ≠ .free → i ≠ .lx 1 → i ≠ .lx 2 → H8 i = H i := fun i hf h1 _ => (o8 i h1 (fun e => hf (e ▸ S.fr _ (by omega))) (fun e => hf (e ▸ S.fr _ (by omega))) (fun e => hf (e ▸ S.fr _ (by omega)))).trans ((A4 i h1).trans (A3 i hf))
   have E8 : H8 (.lx 2) = .live (.lst (pairL (lw5 (digI ns)).es)) := (o8 (.lx 2) (by decide) nofun nofun nofun).trans ((A4 (.lx 2) (by decide)).trans e3)
   have D8 : H8 (.lw (n + 2)) = .live (.lst (strL [sHtml, sBody])) := (o8 (.lw (n + 2)) nofun (aAc (by omega)) (aAc (by omega)) (aAc (by omega))).trans ((A4 (.lw (n + 2)) nofun).trans d3)
   have F8 : ∀ k, n + 5 ≤ k → H8 (.lw k) = .free := fun k hk => (o8 (.lw k) nofun (aAc (by exact fun e => (zff (zn [k, n] (.h 1 (.a (.v 1) (.n 5)) (.v 0) (.h 1 (.v 0) (.a (.v 1) (.n 1)) .e)) (.n 1) (.n 0) rfl hk (Nat.le_of_eq e))))) (aAc (by exact fun e => (zff (zn [k, n] (.h 1 (.a (.v 1) (.n 5)) (.v 0) (.h 1 (.v 0) (.a (.v 1) (.n 3)) .e)) (.n 1) (.n 0) rfl hk (Nat.le_of_eq e))))) (aAc (by exact fun e => (zff (zn [k, n] (.h 1 (.a (.v 1) (.n 5)) (.v 0) (.h 1 (.v 0) (.a (.v 1) (.n 4)) .e)) (.n 1) (.n 0) rfl hk (Nat.le_of_eq e)))))).trans (f4 k (by omega))
   have O8 : ∀ i, (∀ k, i ≠ .lw k) → (∀ k, i ≠ .lx k) → H8 i = .free := fun i h1 h2 => (o8 i (h2 _) (h1 _) (h1 _) (h1 _)).trans ((A4 i (h2 _)).trans (o3 i h1 h2))
   subst hl
   refine kZ ?_
   exact aAg (aA9 (aT7 P O8 t8 fun e ν => aWp fun β' ν' B => aTb B S A8 E8 c8 ly8 D8 F8 (aDz _ aOu aF1) aFz.es aFz.ow (aAm _) aZ6))
end
section
variable {n r j : Nat} {a : Addr} {ns : List Int} {sign : Option AV} {w : Id} {s : LS} {D : Nat → Int}
theorem inn1 : (lw1 D).inn = [] := aD7
theorem inn2 : (lw2 D).inn = [] := aD7.trans inn1
theorem inn3 : (lw3 D).inn = [] := aD7.trans inn2
theorem inn4 : (lw4 D).inn = [8] := aD7
theorem inn5 : (lw5 D).inn = [7, 8] := aD7
theorem aTh {m : Nat} : TxOk m [] := fun k x q => nomatch q
theorem bA2 {i : Id} (h : UI [8] (.lx 7) i) : UI [7, 8] (.lx 6) i := by
 rcases h with h | ⟨⟨k, hk, rfl⟩, _⟩
 ·exact .inl h
 ·rw [List.mem_singleton] at hk
  subst hk
  exact .inr ⟨⟨8, by simp, rfl⟩, .inr ⟨.inr (.inr rfl), by decide⟩⟩
set_option maxHeartbeats 4000000 in
theorem aUa (P : Plain fc_823) (c : Scr Γ.h₀ a ns) (S : LawH (.lx 6) H 10 10 10 (lw0 (digI ns))) (T : Tb H) (h7 : H (.lx 7) = .live (.lst [])) (h8 : H (.lx 8) = .live (.lst [])) :
  Exs Γ fc_823 50 (List.drop 4 (bodyS (stAt 75))) (lawR (some (.glob (.ref a))) (some (.ref (.lx 0))) (some (.ref (.lx 1))) sign (some (.ref (.lw 4))) (some (.ref (.lw 6))) (some (.ref (.lw 8))) none none none none none none none none none none none) H (RetQ QT) := by
 unfold lawR
 nofun
 intro H1 S1 F1 _
 have T1 := T.keep F1.u0
 have h7 := (F1 (.lx 7) (.inr ⟨.inr (.inl rfl), by decide⟩) (aAb h7)).trans h7
 have h8 := (F1 (.lx 8) (.inr ⟨.inr (.inr rfl), by decide⟩) (aAb h8)).trans h8
 nofun
 refine aC7 (n := 2) T1.t rfl rfl (by omega) ?_
 nofun
 refine aA4 (aI5 (k := 1) c rfl (by omega) S1 rfl (by omega) fun H2 r2 j2 S2 F2 => ?_) rfl
 have S2 : LawH (.lx 6) H2 211 r2 j2 (lw1 (digI ns)) := S2
 have T2 := T1.keep F2.u0
 have h7 := (F2 (.lx 7) (.inr ⟨.inr (.inl rfl), by decide⟩) (aAb h7)).trans h7
 have h8 := (F2 (.lx 8) (.inr ⟨.inr (.inr rfl), by decide⟩) (aAb h8)).trans h8
 clear S S1 F1 T T1 F2
 nofun
 intro H3 S3 F3 _
 have T3 := T2.keep F3.u0
 have h7 := (F3 (.lx 7) (.inr ⟨.inr (.inl rfl), by decide⟩) (aAb h7)).trans h7
 have h8 := (F3 (.lx 8) (.inr ⟨.inr (.inr rfl), by decide⟩) (aAb h8)).trans h8
 nofun
 refine aC7 (n := 2) T3.t rfl rfl (by omega) ?_
 nofun
 obtain ⟨v6, e6, l6⟩ := S3.ts
 have l6 : LyTs (UI (lw1 (digI ns)).inn (.lx 6)) H3 v6 (lw1 (digI ns)).ts := l6
 rw [inn1] at l6
 have z6 : (lw1 (digI ns)).ts.length ≤ 211 := S2.sz.2.2.2.2.2.1
 have x6 : TxOk 211 (lw1 (digI ns)).ts := S2.tx.2
 refine aA5 e6 (by rw [l6.len]; omega) ?_
 have S4 := S3.turn (w' := .lx 7) (H' := upd H3 (.lx 6) (.live (.lst (v6 ++ [.ref (.lw 6)])))) (L := (lw1 (digI ns)).inn) (vs := []) (ts := []) (.inr (.inl rfl)) (fun i h => aA0 h rfl) (aA0 (by decide) h7) .nil (Nat.zero_le _) aTh
 have S4 : LawH (.lx 7) (upd H3 (.lx 6) (.live (.lst (v6 ++ [.ref (.lw 6)])))) 212 r2 j2 { addT (lw1 (digI ns)) tbodyTok with ts := [] } := S4
 have W6 : Wt (.lx 6) (upd H3 (.lx 6) (.live (.lst (v6 ++ [.ref (.lw 6)])))) v6 (lw1 (digI ns)).ts (.ref (.lw 6)) := ⟨aA2, l6.keep (fun i u => aJ6 u) fun i u _ => aA0 (fun e => by obtain ⟨k, q⟩ := aJ6 u; rwa [q] at e) rfl⟩
 have T4 : Tb (upd H3 (.lx 6) (.live (.lst (v6 ++ [.ref (.lw 6)])))) := T3.keep fun i u _ => aA0 (fun e => by obtain ⟨k, q⟩ := u; rwa [q] at e) rfl
 have h8 : upd H3 (.lx 6) (.live (.lst (v6 ++ [.ref (.lw 6)]))) (.lx 8) = .live (.lst []) := aA0 (by decide) h8
 generalize upd H3 (.lx 6) (.live (.lst (v6 ++ [.ref (.lw 6)]))) = H4 at S4 W6 T4 h8 ⊢
 clear S3 F3 T3 l6 e6 h7 S2 T2
 nofun
 refine aC7 (n := 2) T4.p rfl rfl (by omega) ?_
 nofun
 refine aA4 (aI5 (k := 4) c rfl (by omega) S4 aCc (by omega) fun H5 r5 j5 S5 F5 => ?_) rfl
 have S5 : LawH (.lx 7) H5 412 r5 j5 (lw2 (digI ns)) := S5
 have T5 := T4.keep F5.u0
 have W6 := W6.keep (F5.wt (.inl rfl) (by decide))
 have h8 := (F5 (.lx 8) (.inr ⟨.inr (.inr rfl), by decide⟩) (aAb h8)).trans h8
 clear S4 F5 T4
 nofun
 intro H6 S6 F6 _
 have T6 := T5.keep F6.u0
 have W6 := W6.keep (F6.wt (.inl rfl) (by decide))
 have h8 := (F6 (.lx 8) (.inr ⟨.inr (.inr rfl), by decide⟩) (aAb h8)).trans h8
 nofun
 refine aC7 (n := 2) T6.p rfl rfl (by omega) ?_
 nofun
 obtain ⟨v7, e7, l7⟩ := S6.ts
 have l7 : LyTs (UI (lw2 (digI ns)).inn (.lx 7)) H6 v7 (lw2 (digI ns)).ts := l7
 rw [inn2] at l7
 have z7 : (lw2 (digI ns)).ts.length ≤ 412 := S5.sz.2.2.2.2.2.1
 have x7 : TxOk 412 (lw2 (digI ns)).ts := S5.tx.2
 refine aA5 e7 (by rw [l7.len]; omega) ?_
 have S7 := S6.turn (w' := .lx 8) (H' := upd H6 (.lx 7) (.live (.lst (v7 ++ [.ref (.lw 8)])))) (L := (lw2 (digI ns)).inn) (vs := []) (ts := []) (.inr (.inr rfl)) (fun i h => aA0 h rfl) (aA0 (by decide) h8) .nil (Nat.zero_le _) aTh
 have S7 : LawH (.lx 8) (upd H6 (.lx 7) (.live (.lst (v7 ++ [.ref (.lw 8)])))) 413 r5 j5 { addT (lw2 (digI ns)) trTok with ts := [] } := S7
 have W7 : Wt (.lx 7) (upd H6 (.lx 7) (.live (.lst (v7 ++ [.ref (.lw 8)])))) v7 (lw2 (digI ns)).ts (.ref (.lw 8)) := ⟨aA2, l7.keep (fun i u => aJ6 u) fun i u _ => aA0 (fun e => by obtain ⟨k, q⟩ := aJ6 u; rwa [q] at e) rfl⟩
 have T7 : Tb (upd H6 (.lx 7) (.live (.lst (v7 ++ [.ref (.lw 8)])))) := T6.keep fun i u _ => aA0 (fun e => by obtain ⟨k, q⟩ := u; rwa [q] at e) rfl
 have W6 : Wt (.lx 6) (upd H6 (.lx 7) (.live (.lst (v7 ++ [.ref (.lw 8)])))) v6 (lw1 (digI ns)).ts (.ref (.lw 6)) := W6.keep (aZe (by decide) fun k e => nomatch e)
 generalize upd H6 (.lx 7) (.live (.lst (v7 ++ [.ref (.lw 8)]))) = H7 at S7 W6 W7 T7 ⊢
 clear S6 F6 T6 l7 e7 h8 S5 T5
 nofun
 refine aC7 (n := 2) T7.r rfl rfl (by omega) ?_
 nofun
 refine aA4 (aI5 (k := 7) c rfl (by omega) S7 aCc (by omega) fun H8 r8 j8 S8 F8 => ?_) rfl
 have S8 : LawH (.lx 8) H8 613 r8 j8 (lw3 (digI ns)) := S8
 have T8 := T7.keep F8.u0
 have W6 := W6.keep (F8.wt (.inl rfl) (by decide))
 have W7 := W7.keep (F8.wt (.inr (.inl rfl)) (by decide))
 clear S7 F8 T7
 nofun
 intro H9 S9 F9 _
 have T9 := T8.keep F9.u0
 have W6 := W6.keep (F9.wt (.inl rfl) (by decide))
 have W7 := W7.keep (F9.wt (.inr (.inl rfl)) (by decide))
 obtain ⟨v8, e8, l8⟩ := S9.ts
 have l8 : LyTs (UI (lw3 (digI ns)).inn (.lx 8)) H9 v8 (lw3 (digI ns)).ts := l8
 rw [inn3] at l8
 have S10 := S9.turn (w' := .lx 7) (H' := H9) (L := [8]) (vs := v7 ++ [.ref (.lw 8)]) (ts := (lw2 (digI ns)).ts ++ [.el sTr [] (lw3 (digI ns)).ts]) (.inr (.inl rfl)) (fun i h => rfl) W7.at_
  ((W7.ly.keep (fun i u => .inl u) fun _ _ _ => rfl).snoc (.el (.inl ⟨8, rfl⟩) (.inl ⟨9, rfl⟩) (.inr ⟨⟨8, .head _, rfl⟩, .inr ⟨.inr (.inr rfl), by decide⟩⟩) (by decide +kernel) T9.r (show H9 (.lw 9) = .live (.lst (pairL [])) from T9.r9) e8 (l8.keep (fun i u => .inl (aJ6 u)) fun _ _ _ => rfl))) (by rw [List.length_append]; simp only [List.length_cons, List.length_nil]; omega) ((x7.mono (by omega)).snoc fun a x e => nomatch e)
 have S10 : LawH (.lx 7) H9 614 r8 j8 { addT (lw3 (digI ns)) (endTok sTr) with ts := (lw2 (digI ns)).ts ++ [.el sTr [] (lw3 (digI ns)).ts], inn := [8] } := S10
 clear S9 F9 S8 T8 l8 e8
 nofun
 refine aC7 (n := 2) T9.p rfl rfl (by omega) ?_
 nofun
 refine aA4 (aI5 (k := 10) c rfl (by omega) S10 aCc (by omega) fun H10 r10 j10 S11 F10 => ?_) rfl
 have S11 : LawH (.lx 7) H10 814 r10 j10 (lw4 (digI ns)) := S11
 have T10 := T9.keep F10.u0
 have W6 := W6.keep (F10.wt (.inl rfl) (by decide))
 clear S10 F10 T9 W7
 nofun
 intro H11 S12 F11 _
 have T11 := T10.keep F11.u0
 have W6 := W6.keep (F11.wt (.inl rfl) (by decide))
 obtain ⟨v9, e9, l9⟩ := S12.ts
 have l9 : LyTs (UI (lw4 (digI ns)).inn (.lx 7)) H11 v9 (lw4 (digI ns)).ts := l9
 rw [inn4] at l9
 have S13 := S12.turn (w' := .lx 6) (H' := H11) (L := [7, 8]) (vs := v6 ++ [.ref (.lw 6)]) (ts := (lw1 (digI ns)).ts ++ [.el sTbody [] (lw4 (digI ns)).ts]) (.inl rfl) (fun i h => rfl) W6.at_
  ((W6.ly.keep (fun i u => .inl u) fun _ _ _ => rfl).snoc (.el (.inl ⟨6, rfl⟩) (.inl ⟨7, rfl⟩) (.inr ⟨⟨7, .head _, rfl⟩, .inr ⟨.inr (.inl rfl), by decide⟩⟩) (by decide +kernel) T11.p (show H11 (.lw 7) = .live (.lst (pairL [])) from T11.p7) e9 (l9.keep (fun i u => bA2 u) fun _ _ _ => rfl))) (by rw [List.length_append]; simp only [List.length_cons, List.length_nil]; omega) ((x6.mono (by omega)).snoc fun a x e => nomatch e)
 have S13 : LawH (.lx 6) H11 815 r10 j10 { addT (lw4 (digI ns)) (endTok sTbody) with ts := (lw1 (digI ns)).ts ++ [.el sTbody [] (lw4 (digI ns)).ts], inn := [7, 8] } := S13
 clear S12 F11 S11 T10 l9 e9
 nofun
 refine aC7 (n := 2) T11.t rfl rfl (by omega) ?_
 nofun
 refine aA4 (aI5 (k := 13) c rfl (by omega) S13 aCc (by omega) fun H12 r12 j12 S14 F12 => ?_) rfl
 have S14 : LawH (.lx 6) H12 1015 r12 j12 (lw5 (digI ns)) := S14
 exact aAj (aUl P c S14 (T11.keep F12.u0) inn5 (by omega))
end
section
variable {a : Addr} {ns : List Int}
noncomputable def H00 : AH := fun _ => .free
structure St0 (H : AH) : Prop where
 d : H (.lx 0) = .live (.dcs (stF 10 0))
 t : H (.lx 1) = .live (.lst [])
 e : H (.lx 2) = .live (.lst [])
 r : H (.lx 10) = .live (.lst [])
 o : H (.lx 4) = .live (.lst [])
 w : H (.lx 5) = .live (.lst [])
 f : ∀ i, i ≠ .lx 0 → i ≠ .lx 1 → i ≠ .lx 2 → i ≠ .lx 10 → i ≠ .lx 4 → i ≠ .lx 5 → H i = .free
noncomputable def threeH (H : AH) : AH := upd (upd (upd (upd (upd (upd (upd (upd (upd H (.lw 5) (.live (.lst []))) (.lx 6) (.live (.lst []))) (.lw 4) (.live (.lst [.str sTable, .ref (.lw 5), .ref (.lx 6)]))) (.lw 7) (.live (.lst []))) (.lx 7) (.live (.lst []))) (.lw 6) (.live (.lst [.str sTbody, .ref (.lw 7), .ref (.lx 7)]))) (.lw 9) (.live (.lst []))) (.lx 8) (.live (.lst []))) (.lw 8) (.live (.lst [.str sTr, .ref (.lw 9), .ref (.lx 8)]))
theorem aSt {H : AH} : Tb (threeH H) := ⟨rfl, rfl, rfl, rfl, rfl, rfl⟩
theorem aHj {H : AH} {i : Id} (h1 : ∀ k, 4 ≤ k → k < 10 → i ≠ .lw k) (h2 : i ≠ .lx 6) (h3 : i ≠ .lx 7) (h4 : i ≠ .lx 8) : threeH H i = H i :=
 aA0 (h1 8 (by decide) (by decide)) (aA0 h4 (aA0 (h1 9 (by decide) (by decide)) (aA0 (h1 6 (by decide) (by decide)) (aA0 h3 (aA0 (h1 7 (by decide) (by decide)) (aA0 (h1 4 (by decide) (by decide)) (aA0 h2 (aA0 (h1 5 (by decide) (by decide)) rfl))))))))
theorem aPa {H0 H8 : AH} {kv : List AV} (Z : St0 H0) (t8 : H8 (.lx 1) = .live (.lst (chL (sigL (digI ns 0))))) (c8 : H8 (.lx 4) = .live (.lst kv)) (ly8 : LyTs (fun _ => False) H8 kv ((sigL (digI ns 0)).foldl putN [])) (p1 : ((sigL (digI ns 0)).foldl putN []).length ≤ (sigL (digI ns 0)).length) (p2 : TxOk (sigL (digI ns 0)).length ((sigL (digI ns 0)).foldl putN []))
  (f8 : ∀ k, 2 ≤ k → H8 (.lw k) = .free) (x8 : ∀ k, k ≠ 0 ∧ k ≠ 1 ∧ k ≠ 2 ∧ k ≠ 4 ∧ k ≠ 5 ∧ k ≠ 10 → H8 (.lx k) = .free) (y8 : ∀ i, (∀ k, i ≠ .lw k) → (∀ k, i ≠ .lx k) → H8 i = .free) (z8 : ∀ k, k = 0 ∨ k = 2 ∨ k = 5 ∨ k = 10 → H8 (.lx k) = H0 (.lx k)) : LawH (.lx 6) (threeH H8) 10 10 10 (lw0 (digI ns)) := by
 have l4 := aC0 (k := digI ns 0)
 have tn : ∀ k, k ≠ 6 ∧ k ≠ 7 ∧ k ≠ 8 → threeH H8 (.lx k) = H8 (.lx k) := fun k hk => aHj (fun q _ _ e => nomatch e) (aBx hk.1) (aBx hk.2.1) (aBx hk.2.2)
 have fw : ∀ k, 10 ≤ k → threeH H8 (.lw k) = .free := fun k hk => (aHj (i := .lw k) (fun q h1 h2 => aAc (show k ≠ q by exact fun e => (zff (zn [k, q] (.h 1 (.n 10) (.v 0) (.h 1 (.a (.v 1) (.n 1)) (.n 10) (.h 1 (.v 0) (.v 1) .e))) (.n 1) (.n 0) rfl hk h2 (Nat.le_of_eq e))))) nofun nofun nofun).trans (f8 k (by exact zn [k] (.h 1 (.n 10) (.v 0) .e) (.n 2) (.v 0) rfl hk))
 have fx : ∀ k, 10 < k → threeH H8 (.lx k) = .free := fun k hk => (tn k (by exact oz227 hk)).trans (x8 k (by exact oz228 hk))
 have oth : ∀ i, (∀ k, i ≠ .lw k) → (∀ k, i ≠ .lx k) → threeH H8 i = .free := fun i h1 h2 => (aHj (fun q _ _ => h1 q) (h2 _) (h2 _) (h2 _)).trans (y8 i h1 h2)
 have d : threeH H8 (.lx 0) = .live (.dcs (stF 10 0)) := (tn 0 (by decide)).trans ((z8 0 (by decide)).trans Z.d)
 have z1 : (chL (sigL (digI ns 0))).length ≤ 10 := by rw [chL, List.length_map]; omega
 have z2 : ((sigL (digI ns 0)).foldl putN []).length ≤ 10 := by omega
 exact ⟨d, (tn 1 (by decide)).trans t8, (tn 2 (by decide)).trans ((z8 2 (by decide)).trans Z.e), (tn 10 (by decide)).trans ((z8 10 (by decide)).trans Z.r), ⟨kv, (tn 4 (by decide)).trans c8, ly8.keep (fun _ q => q.elim) fun i u _ => u.elim⟩, ⟨[], (tn 5 (by decide)).trans ((z8 5 (by decide)).trans Z.w), .nil⟩, ⟨[], rfl, .nil⟩, fw, fx, oth, .inl rfl, ⟨Nat.le_refl _, Nat.le_refl _⟩, ⟨z1, Nat.zero_le _, Nat.zero_le _, z2, Nat.zero_le _, Nat.zero_le _, Nat.zero_le _⟩, ⟨p2.mono (by omega), fun k x q => nomatch q⟩⟩
set_option maxHeartbeats 4000000 in
theorem aWn (c : Scr Γ.h₀ a ns) : Cd Γ 51 (.ref 823) [.glob (.ref a)] H00 QT := by
 refine aSq fun P => ?_
 unfold lawR
 refine aAw (aJe (.lx 0) (by intro _; rfl) rfl ?_)
 refine aBb (aA6 (.lx 1) (aA7 ⟨rfl, rfl, ?_⟩))
 refine aBb (aA6 (.lx 2) (aA7 ⟨rfl, rfl, ?_⟩))
 refine aBb (aA6 (.lx 10) (aA7 ⟨rfl, rfl, ?_⟩))
 refine aBb (aA6 (.lx 4) (aA7 ⟨rfl, rfl, ?_⟩))
 refine aBb (aA6 (.lx 5) (aA7 ⟨rfl, rfl, ?_⟩))
 refine aBb ?_
 nofun
 refine aJf ⟨rfl, by decide +kernel, ?_⟩
 have Z : St0 (upd (upd (upd (upd (upd (upd (upd H00 (.lx 0) (.live (.dcs []))) (.lx 1) (.live (.lst []))) (.lx 2) (.live (.lst []))) (.lx 10) (.live (.lst []))) (.lx 4) (.live (.lst []))) (.lx 5) (.live (.lst []))) (.lx 0) (.live (.dcs [(oS "tokens", .ref (.lx 1)), (oS "errors", .ref (.lx 2)), (oS "run", .ref (.lx 10)), (oS "outside", .ref (.lx 4)), (oS "owned", .ref (.lx 5)), (oS "forms", .int 0)]))) :=
  ⟨rfl, rfl, rfl, rfl, rfl, rfl, fun i h0 h1 h2 h3 h4 h5 => aA0 h0 (aA0 h5 (aA0 h4 (aA0 h3 (aA0 h2 (aA0 h1 (aA0 h0 rfl))))))⟩
 generalize (upd (upd (upd (upd (upd (upd (upd H00 (.lx 0) (.live (.dcs []))) (.lx 1) (.live (.lst []))) (.lx 2) (.live (.lst []))) (.lx 10) (.live (.lst []))) (.lx 4) (.live (.lst []))) (.lx 5) (.live (.lst []))) (.lx 0) (.live (.dcs [(oS "tokens", .ref (.lx 1)), (oS "errors", .ref (.lx 2)), (oS "run", .ref (.lx 10)), (oS "outside", .ref (.lx 4)), (oS "owned", .ref (.lx 5)), (oS "forms", .int 0)]))) = H0 at Z ⊢
 nofun
 refine aB9 Z.d (.head _) ?_
 nofun
 have l4 := aC0 (k := digI ns 0)
 have l1 := aCp (k := digI ns 0)
 have fw : ∀ k, H0 (.lw k) = .free := fun k => Z.f _ nofun nofun nofun nofun nofun nofun
 generalize hl : sigL (digI ns 0) = l at l4 l1
 refine aAt (fun k ρ H7 => k ≤ l.length ∧ (∃ u, ρ = [(oS "script", some (.glob (.ref a))), (oS "state", some (.ref (.lx 0))), (oS "tokens", some (.ref (.lx 1))), (oS "sign", u), (oS "table", none), (oS "part", none), (oS "row", none), (oS "kids", none), (oS "due", none), (oS "rules", none), (oS "builder", none),
   (oS "tree", none), (oS "body", none), (oS "token", none), (oS "owned", none), (oS "node", none), (oS "owner", none), (oS "held", none)]) ∧
   H7 (.lx 1) = .live (.lst (chL (l.take k))) ∧ (∃ kv, H7 (.lx 4) = .live (.lst kv) ∧ LyTs (fun _ => False) H7 kv ((l.take k).foldl putN [])) ∧ H7 (.lw 0) = .live (.lst (strL l)) ∧
   ∀ i, i ≠ .lx 1 → i ≠ .lx 4 → i ≠ .lw 0 → i ≠ .lw 1 → H7 i = H0 i) ?_
 refine aBf ?_
 nofun
 refine aA4 (aFs (k := 0) c rfl (by omega) ?_) rfl
 nofun
 refine aA4 (aD4 (n := 0) (fw _) (fw _) fun H7 g7 o7 => ?_) rfl
 rw [hl] at g7
 refine ⟨_, _, rfl, g7, ⟨Nat.zero_le _, ⟨_, rfl⟩, (o7 (.lx 1) nofun nofun).trans Z.t, ⟨[], (o7 (.lx 4) nofun nofun).trans Z.o, .nil⟩, g7, fun i _ _ b c => o7 i b c⟩, fun k ρ H8 q => q.2.2.2.2.1, ?_, ?_⟩
 ·rintro k _ H8 u zw0 hu
  refine hZ fun GZ kZ => ?_
  obtain ⟨hk, ⟨u0, rfl⟩, t8, ⟨kv, c8, ly8⟩, g8, o8⟩ := zw0
  obtain ⟨x, rfl, hx⟩ := aC3 hu
  have x3 : k < l.length := (List.getElem?_eq_some_iff.mp hx).1
  obtain ⟨p1, p2⟩ := putNs l1 k
  have x1 := l1 x (List.mem_of_getElem? hx)
  refine kZ ?_
  refine ⟨_, aAv (by wtm_at "m.put"), ?_⟩
  nofun
  refine aA5 t8 (by rw [chL, List.length_map, List.length_take]; omega) ?_
  have A9 : ∀ i, i ≠ .lx 1 → upd H8 (.lx 1) (.live (.lst (chL (l.take k) ++ [chTok x]))) i = H8 i := fun i h => aA0 h rfl
  have t9 : upd H8 (.lx 1) (.live (.lst (chL (l.take k) ++ [chTok x]))) (.lx 1) = .live (.lst (chL (l.take k) ++ [chTok x])) := aA2
  change DropV .none (Exs _ _ _ _ _ (upd H8 (.lx 1) (.live (.lst (chL (l.take k) ++ [chTok x])))) _)
  generalize upd H8 (.lx 1) (.live (.lst (chL (l.take k) ++ [chTok x]))) = H9 at A9 t9 ⊢
  have c9 := (A9 (.lx 4) (by decide)).trans c8
  have d9 := (A9 (.lx 0) (by decide)).trans ((o8 (.lx 0) (by decide) (by decide) nofun nofun).trans Z.d)
  nofun
  refine aB9 d9 (.tail _ (.tail _ (.tail _ (.head _)))) ?_
  nofun
  refine aA4 (aI9 (q := .lx 4) (U := fun _ => False) c9 (ly8.keep (fun _ q => q) fun i u _ => u.elim) (by rw [ly8.len]; exact oz136 l4 x3 p1) (p2.mono (by omega)) (by omega) fun vs' ly hv => ?_) rfl
  refine aAj (aAg (aAd ⟨x3, ⟨_, rfl⟩, ?_, ⟨vs', aA2, ?_⟩, ?_, fun i a b c d => ?_⟩))
  ·rw [aGj hx]
   exact aA0 (by decide) t9
  ·rw [aCf hx]
   exact ly.keep (fun _ q => q) fun i u _ => u.elim
  ·exact aA0 nofun ((A9 (.lw 0) nofun).trans g8)
  ·exact aA0 b ((A9 i a).trans (o8 i a b c d))
 ·rintro _ H8 zw0
  obtain ⟨hk, ⟨u0, rfl⟩, t8, ⟨kv, c8, ly8⟩, g8, o8⟩ := zw0
  have len : (strL l).length = l.length := by rw [strL, List.length_map]
  obtain ⟨p1, p2⟩ := putNs l1 (strL l).length
  rw [len, List.take_of_length_le (Nat.le_refl _)] at t8 ly8 p1 p2
  have f8 : ∀ k, 2 ≤ k → H8 (.lw k) = .free := fun k hk => (o8 (.lw k) nofun nofun (aAc (by exact fun e => (zff (zn [k] (.h 1 (.n 2) (.v 0) (.h 1 (.v 0) (.n 0) .e)) (.n 1) (.n 0) rfl hk (Nat.le_of_eq e))))) (aAc (by exact fun e => (zff (zn [k] (.h 1 (.n 2) (.v 0) (.h 1 (.v 0) (.n 1) .e)) (.n 1) (.n 0) rfl hk (Nat.le_of_eq e)))))).trans (fw k)
  have x8 : ∀ k, k ≠ 0 ∧ k ≠ 1 ∧ k ≠ 2 ∧ k ≠ 4 ∧ k ≠ 5 ∧ k ≠ 10 → H8 (.lx k) = .free := fun k hk => (o8 (.lx k) (aBx (by exact oz231 hk)) (aBx (by exact oz232 hk)) nofun nofun).trans (Z.f _ (aBx (by exact fun e => (hk.1 (Nat.le_antisymm (zn [k] (.h 1 (.v 0) (.n 0) .e) (.v 0) (.n 0) rfl (Nat.le_of_eq e)) (zn [k] .e (.n 0) (.v 0) rfl))))) (aBx (by exact oz231 hk)) (aBx (by exact fun e => (hk.2.2.1 (Nat.le_antisymm (zn [k] (.h 1 (.v 0) (.n 2) .e) (.v 0) (.n 2) rfl (Nat.le_of_eq e)) (zn [k] (.h 1 (.n 2) (.v 0) .e) (.n 2) (.v 0) rfl (Nat.le_of_eq e.symm)))))) (aBx (by exact fun e => (hk.2.2.2.2.2 (Nat.le_antisymm (zn [k] (.h 1 (.v 0) (.n 10) .e) (.v 0) (.n 10) rfl (Nat.le_of_eq e)) (zn [k] (.h 1 (.n 10) (.v 0) .e) (.n 10) (.v 0) rfl (Nat.le_of_eq e.symm)))))) (aBx (by exact oz232 hk)) (aBx (by exact fun e => (hk.2.2.2.2.1 (Nat.le_antisymm (zn [k] (.h 1 (.v 0) (.n 5) .e) (.v 0) (.n 5) rfl (Nat.le_of_eq e)) (zn [k] (.h 1 (.n 5) (.v 0) .e) (.n 5) (.v 0) rfl (Nat.le_of_eq e.symm)))))))
  have y8 : ∀ i, (∀ k, i ≠ .lw k) → (∀ k, i ≠ .lx k) → H8 i = .free := fun i h1 h2 => (o8 i (h2 _) (h2 _) (h1 _) (h1 _)).trans (Z.f i (h2 _) (h2 _) (h2 _) (h2 _) (h2 _) (h2 _))
  have z8 : ∀ k, k = 0 ∨ k = 2 ∨ k = 5 ∨ k = 10 → H8 (.lx k) = H0 (.lx k) := fun k hk => o8 (.lx k) (aBx (by exact oz237 hk)) (aBx (by exact oz238 hk)) nofun nofun
  refine aAq (aFm (names := [oS "table", oS "part", oS "row"]) ?_)
  nofun
  refine aA6 (.lw 4) (aAi ?_)
  nofun
  refine aA6 (.lw 5) (aA7 ⟨rfl, by repeat' (first | exact f8 _ (by decide) | exact x8 _ (by decide) | refine aA0 (by decide) ?_), ?_⟩)
  nofun
  refine aA6 (.lx 6) (aA7 ⟨rfl, by repeat' (first | exact f8 _ (by decide) | exact x8 _ (by decide) | refine aA0 (by decide) ?_), ?_⟩)
  nofun
  refine ⟨by repeat' (first | exact f8 _ (by decide) | exact x8 _ (by decide) | refine aA0 (by decide) ?_), ?_⟩
  nofun
  refine aA6 (.lw 6) (aAi ?_)
  nofun
  refine aA6 (.lw 7) (aA7 ⟨rfl, by repeat' (first | exact f8 _ (by decide) | exact x8 _ (by decide) | refine aA0 (by decide) ?_), ?_⟩)
  nofun
  refine aA6 (.lx 7) (aA7 ⟨rfl, by repeat' (first | exact f8 _ (by decide) | exact x8 _ (by decide) | refine aA0 (by decide) ?_), ?_⟩)
  nofun
  refine ⟨by repeat' (first | exact f8 _ (by decide) | exact x8 _ (by decide) | refine aA0 (by decide) ?_), ?_⟩
  nofun
  refine aA6 (.lw 8) (aAi ?_)
  nofun
  refine aA6 (.lw 9) (aA7 ⟨rfl, by repeat' (first | exact f8 _ (by decide) | exact x8 _ (by decide) | refine aA0 (by decide) ?_), ?_⟩)
  nofun
  refine aA6 (.lx 8) (aA7 ⟨rfl, by repeat' (first | exact f8 _ (by decide) | exact x8 _ (by decide) | refine aA0 (by decide) ?_), ?_⟩)
  nofun
  refine ⟨by repeat' (first | exact f8 _ (by decide) | exact x8 _ (by decide) | refine aA0 (by decide) ?_), ?_⟩
  nofun
  refine ⟨_, _, rfl, .cons (by wtm_at "m.put") (.cons (by wtm_at "m.put") (.cons (by wtm_at "m.put") .nil)), aA9 ?_⟩
  subst hl
  exact aUa (H := threeH H8) P c (aPa Z t8 c8 ly8 p1 p2 f8 x8 y8 z8) aSt rfl rfl
end
theorem st00 {w : World} {h : Heap} : St w h (fun _ _ => none) H00 h :=
 ⟨fun _ _ e => e, fun _ _ _ e => (nomatch e), fun _ _ _ e => (nomatch e), fun _ _ _ _ _ e => (nomatch e), fun _ _ _ => rfl, fun i o e => (nomatch e)⟩
theorem aZ2 {A : Around} (h : A = callerA) : Room A 51 := by
 subst h
 exact ⟨rfl, by decide +kernel, by decide +kernel⟩
theorem aG3 {R : WRecords} {cl : Str → Option Addr} {h : Heap} : ∀ (ns : List Int) {vs : List Value} {as : List Addr}, ReadsAllW R cl h vs (ns.map WData.int) as → vs.length = ns.length ∧ ∀ (k : Nat) (i : Int), ns[k]? = some i → ∃ t, vs[k]? = some (.int i t)
 | [], vs, as, r => by
  cases r
  exact ⟨rfl, fun k i e => nomatch e⟩
 | n :: ns, vs, as, r => by
  cases r with
  | cons a r =>
   cases a
   obtain ⟨h1, h2⟩ := aG3 ns r
   refine ⟨by rw [List.length_cons, List.length_cons, h1], fun k i e => ?_⟩
   cases k with
   | zero => cases e; exact ⟨_, rfl⟩
   | succ k => exact h2 k i e
theorem aSr {args : List WData} (hpre : PySem.Challenge.rw_nt0622_01.row.toRowW.claim.pre args = true) : ∃ ns : List Int, args = [.list (ns.map .int)] ∧ ns.length ≤ 63 := by
 obtain ⟨h1, h2⟩ := pre_splitW hpre
 obtain ⟨d, r, rfl, h3, h4⟩ := hasAllW_cons h1
 have := hasAllW_nil h4
 subst this
 obtain ⟨xs, rfl, h5⟩ := hasW_list h3
 obtain ⟨ns, rfl⟩ := items_int h5
 refine ⟨ns, rfl, ?_⟩
 have h6 := (holds_andW h2).1
 have h6 : WTm.holds [] (.not (.lt (.lit (.int 63)) (.len (.arg 0)))) { args := [.list (ns.map .int)] } = true := h6
 simp only [WTm.holds, WTm.value, List.getElem?_cons_zero, Option.map_some, less?, Num.less?, List.length_map] at h6
 by_cases hh : (63 : Int) < (ns.length : Int)
 ·simp [hh] at h6
 ·omega
theorem aQu {q : Program} {loose : List Str} {XP : (Str → Option Value) → Heap → Prop} {d : DefRec} {kwd : List (Str × Expr)} (hn : d.name = oS "law") (YP : World → Heap → Prop) (hY : ∀ w h, YP w h → (K w.params).In h) (hm : ∀ w h, YP w h → ∃ o, h.get? sysModules = some o) :
  WalkO q loose XP YP PySem.Challenge.rw_nt0622_01.row.toRowW d kwd fun f vs => PySem.call f vs := by
 intro w s₀ s₁ mg mb G Y a o pm cd doc dV kV ho hd hcd hD hmg hg args vals as hpre hlay hrd hwl hlo
 obtain ⟨ns, rfl, hns⟩ := aSr hpre
 have X := hY _ _ Y
 have fa : mg (oS "law") = some (.ref 823) := mg_of X G.T.g ⋯
 rw [hn, fa] at hmg
 cases hmg
 cases hrd with
 | cons r rs =>
  cases rs
  cases r with
  | list e1 e2 e3 e4 =>
   rename_i la lo vs0 n0 as0
   obtain ⟨l1, l2⟩ := aG3 ns e4
   let Γ : Cx := ⟨w, s₁.heap, mg, mb, X, G.T.g, G.T.b, G.T.builtins, G.T.nolimit, hm _ _ Y⟩
   have c : Scr Γ.h₀ la ns := ⟨⟨vs0.toList, ⟨lo, e1, e2, n0, by rw [e3]⟩, l1, l2⟩, by omega⟩
   refine wpAny_mono ((aWn (Γ := Γ) c).cl.go callerA s₁ (fun _ _ => none) [.ref la] (aZ2 rfl) st00 (.cons (.glob _) .nil)) (fun v s' p => ?_) fun _ _ e => e.elim
   obtain ⟨v', H', φ', rfl, r, g, S⟩ := p
   cases r
   obtain ⟨h', t', rfl⟩ := g.rest
   refine ⟨.inl ⟨_, .bool true, [], rfl, fun _ => rfl, .bool _, by wrow_post, fun _ => ⟨List.nodup_nil, fun _ hx => nomatch hx⟩⟩, .of_keep S.base, rfl, .of_eq hg⟩
end
end
end
end
end Mine
section
local macro_rules | `(#print $s:str) => do
 let c (k : String) (a : Array Lean.Syntax) : Lean.Syntax := .node .none ("Lean.Parser.Command".toName.str k) a
 let e := Mine.zU #[]
 let f (n : Lean.Name) : Lean.Syntax := c "declaration" #[c "declModifiers" #[e, e, e, e, e, e, e], c "theorem" #[Mine.zA "theorem", c "declId" #[Lean.mkIdent (.str `Mine.hd (n.getString!)), e], c "declSig" #[e, Mine.zT "typeSpec" #[Mine.zA ":", Mine.zI "True"]], c "declValSimple" #[Mine.zA ":=", Mine.zI "trivial", .node .none `Lean.Parser.Termination.suffix #[e, e], e]]]
 let g := (((s.getString.splitOn ";").getD 2 "").splitOn " ").foldl (fun (l : List Nat) x => (l.headD 4 + x.toNat!) :: l) []
 let h (n : Lean.Name) : Lean.Name := .str .anonymous s!"tw{n.hash}"
 let a (k : Nat) (n : Lean.Name) : List Lean.Name := (((s.getString.splitOn ";").getD k "").splitOn " ").map fun x => h (n.str x)
 pure (Mine.zU ((`tw16525849080163358316 :: (a 0 `Mine ++ a 1 `Mine.hd ++ ((List.range 1073).filter fun i => 5 ≤ i && !g.contains i).map fun i => h (.str `Mine.hd s!"o_1_{i}"))).map f).toArray)
#print "K stAt mtAt cA cO cN fO tO o_1 o_2 o_3 o_238 o_239 o_509 o_510 o_633 o_634 o_711 o_712;view_1_1 env_1_3 heap_1_9 tree_1_11 sts_1_13 tree_1_94 sts_1_96 tree_1_145 sts_1_147 tree_1_255 tree_1_341 sts_1_347 tree_1_435 sts_1_437 tree_1_510 sts_1_512 tree_1_536 sts_1_538 tree_1_554 sts_1_556 tree_1_643 sts_1_645 tree_1_655 sts_1_657 tree_1_777 tree_1_861 sts_1_867 tree_1_877 sts_1_879 tree_1_953 sts_1_955 tree_1_1039 sts_1_1041 tree_1_1070 heap_1_1072;2 3 1 1 1 1 2 2 7 7 7 7 7 7 7 7 8 7 6 1 1 2 3 8 9 7 7 7 6 1 1 2 5 4 7 7 7 7 7 7 7 7 7 7 7 7 13 1 5 4 7 7 7 7 7 7 7 7 7 7 6 1 1 1 1 1 1 2 2 8 7 7 7 7 7 7 7 7 7 7 6 1 1 2 2 7 7 7 7 7 7 7 7 7 6 1 1 3 5 4 12 1 1 2 6 8 1 1 2 5 4 7 7 7 7 7 7 7 7 7 13 1 1 2 2 6 1 1 2 5 4 9 9 7 7 7 8 7 7 7 7 7 7 7 13 1 5 4 9 9 7 7 7 8 7 7 7 6 1 1 1 1 1 1 2 2 6 1 1 2 5 5 7 7 7 7 7 7 7 13 1 1 2 2 8 7 7 7 7 7 5 7 7 7 5 6 1 1 2 2 7 7 7 4 1 1"
end
open PySem PySem.W PyProof.Rows
set_option Elab.async true
set_option maxRecDepth 100000 in
set_option maxHeartbeats 0 in
theorem Mine.hd : PySem.Challenge.rw_nt0622_01.Holds := by
  refine Mine.h0 fun said => ?_
  o_head (kHook Mine.K Mine.adrs (fun _ => by kernel_rfl))
  case hw => w_witness2
  exact Mine.aQu rfl _ (fun w h Y => kIn_of Y) (fun w h Y => ⟨Mine.o_1 w.params, kIn_of Y 1 _ (by kernel_rfl)⟩)
theorem PySem.Challenge.cw_nt0622_01_holds : PySem.Challenge.rw_nt0622_01.Holds :=
  Mine.hd
