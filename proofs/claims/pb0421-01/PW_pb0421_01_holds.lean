import PyProof.Rows.All
import Wide.All
import OpenK.AllK
import Wide.FinOn
import PyProof.TupleKey
import PyProof.Rows.SetFrom
import Lean
import PySem.Challenge.RW_pb0421_01
set_option Elab.async false
set_option compiler.extract_closed false
set_option maxRecDepth 100000
set_option maxHeartbeats 0
set_option linter.all false
set_option linter.unusedVariables false
set_option rowWalk.seconds 0
section
namespace Mine
noncomputable def meaning (mod rm sib x b : Int) : Int × Int × Int :=
  if rm = 4 then
    if Int.fmod (Int.fdiv sib 8) 8 + 8 * x = 4 then ((if mod = 0 ∧ Int.fmod sib 8 = 5 then -1 else Int.fmod sib 8 + 8 * b), -1, 1)
    else ((if mod = 0 ∧ Int.fmod sib 8 = 5 then -1 else Int.fmod sib 8 + 8 * b), Int.fmod (Int.fdiv sib 8) 8 + 8 * x, [1, 2, 4, 8].getD (Int.fdiv sib 64).toNat 0)
  else if mod = 0 ∧ rm = 5 then (16, -1, 1) else (rm + 8 * b, -1, 1)
noncomputable def tidy (mod rm sib x b : Int) : Bool :=
  if rm = 4 then !(decide (Int.fmod (Int.fdiv sib 8) 8 = 4) && decide (x = 0) && decide (Int.fdiv sib 64 > 0)) && (decide (b = 0) || decide (mod > 0) || decide (¬ Int.fmod sib 8 = 5))
  else decide (x = 0) && (decide (b = 0) || decide (mod > 0) || decide (¬ rm = 5))
noncomputable def width (mod rm sib : Int) : Int :=
  if mod > 0 then (if mod = 1 then 1 else 4) else if rm = 5 ∨ (rm = 4 ∧ Int.fmod sib 8 = 5) then 4 else 0
noncomputable def bears (width worth : Int) (named : Bool) : Bool :=
  match named with
  | true => decide (width = 4)
  | false => if width = 4 then true else if width = 0 then decide (worth = 0) else decide (-128 ≤ worth) && decide (worth ≤ 127)
noncomputable def needless (mod rm sib b : Int) : Bool := decide (0 ≤ sib) && (decide (¬ Int.fmod sib 8 = 4) && decide (meaning mod (Int.fmod sib 8) (-1) 0 b = meaning mod rm sib 0 b))
end Mine
namespace Mine
noncomputable def ext (b : Int) : Int := if 7 < b ∧ b < 16 then 1 else 0
noncomputable def needsSib (b i : Int) : Bool := decide (i ≠ -1) || (decide (b = -1) || (decide (b ≠ 16) && decide (Int.fmod b 8 = 4)))
noncomputable def shiftOf (z : Int) : Int := if z = 1 then 0 else if z = 2 then 1 else if z = 4 then 2 else 3
noncomputable def code (b : Int) : Int := if b = -1 then 5 else if b = 16 then 0 else Int.fmod b 8
noncomputable def sibOf (b i sc : Int) : Int := if i = -1 then 0 * 64 + 4 * 8 + code b else shiftOf sc * 64 + code i * 8 + code b
noncomputable def widths (b wo : Int) (named : Bool) : List Int :=
  match named with
  | true => [4]
  | false => (if wo = 0 ∧ code b ≠ 5 then [0] else []) ++ ((if -128 ≤ wo ∧ wo < 128 then [1] else []) ++ [4])
end Mine
namespace Mine
structure Sh where
  mod : Int
  rm : Int
  sib : Int
  wd : Int
  x : Int
  b : Int
deriving DecidableEq
noncomputable def modOf (z : Int) : Int := if z = 0 then 0 else if z = 1 then 1 else 2
noncomputable def shOne (b i sc wd : Int) : List Sh :=
  (if needsSib b i = true then [] else [⟨modOf wd, code b, -1, wd, ext i, ext b⟩]) ++ [⟨modOf wd, 4, sibOf b i sc, wd, ext i, ext b⟩]
noncomputable def basedSh (b i sc wo : Int) (named : Bool) : List Sh := (widths b wo named).flatMap (shOne b i sc)
end Mine
namespace Mine
theorem widths_len (b wo : Int) (named : Bool) : (widths b wo named).length ≤ 3 := by
  cases named <;> simp only [widths]
  · rw [List.length_append, List.length_append]
    have : (if wo = 0 ∧ code b ≠ 5 then [(0 : Int)] else []).length ≤ 1 := by split <;> simp
    have : (if -128 ≤ wo ∧ wo < 128 then [(1 : Int)] else []).length ≤ 1 := by split <;> simp
    simp only [List.length_cons, List.length_nil] at *
    omega
  · decide
end Mine
namespace Mine
theorem below {n : Nat} {x : Int} {P : Int → Prop} (h0 : 0 ≤ x) (h : x < (n : Int)) (k : ∀ j : Nat, j < n → P (j : Int)) : P x := by
  obtain ⟨j, rfl⟩ := Int.eq_ofNat_of_zero_le h0
  exact k j (Int.ofNat_lt.mp h)
theorem getD_all {α : Type} {P : α → Prop} {l : List α} {d : α} (h : ∀ x ∈ l, P x) (h0 : P d) (k : Nat) : P (l.getD k d) := by
  rw [List.getD_eq_getElem?_getD]
  cases e : l[k]? with
  | none => exact h0
  | some x => exact h x (List.mem_of_getElem? e)
theorem rng8 {q x : Int} (h : 0 ≤ q ∧ q < 8) (hx : x = 0 ∨ x = 1) : 0 ≤ q + 8 * x ∧ q + 8 * x ≤ 15 := by omega
theorem rng7 {q x : Int} (h : 0 ≤ q ∧ q ≤ 7) (hx : x = 0 ∨ x = 1) : 0 ≤ q + 8 * x ∧ q + 8 * x ≤ 15 := rng8 ⟨h.1, Int.lt_of_le_of_lt h.2 (by decide)⟩ hx
theorem wide {y : Int} (h : 0 ≤ y ∧ y ≤ 15) : -1 ≤ y ∧ y ≤ 16 := ⟨Int.le_trans (by decide) h.1, Int.le_trans h.2 (by decide)⟩
end Mine
end
section
namespace Mine
noncomputable def needSh (s : Sh) : Bool :=
  if s.mod = 3 then false else if s.sib < 0 then false else if Int.fmod (Int.fdiv s.sib 8) 8 ≠ 4 then false else if s.x = 1 then false
  else if Int.fmod s.sib 8 = 4 then false else if Int.fmod s.sib 8 = 5 then decide (s.mod ≠ 0) else true
end Mine
end
section
open PySem PySem.W PyProof.Rows
namespace Mine
noncomputable section
noncomputable abbrev Back (h₀ : Heap) (L : Addr) (m : Str → Option Value) (news : List (Addr × Obj)) (s : Shared) (Q : Value → Shared → Prop) (R : Value → List (Addr × Obj) → Prop) : Prop :=
  ∀ (v : Value) (add : List (Addr × Obj)) (h' : Heap) (tk' : Nat), R v add → Fr h₀ L h' m → News h₀ L h' (add ++ news) → (∀ q ∈ news, ∀ p ∈ add, q.1 < p.1) → Q v { s with heap := h', toks := tk' }
@[irreducible] noncomputable def Clls (K : Params → Frag) (V : Program) (TL : List Str) (w : World) (d u : Nat) (f : Addr) (vs : List Value) (G : Heap → Prop) (news : List (Addr × Obj)) (R : Value → List (Addr × Obj) → Prop) : Prop :=
  ∀ (mean : ExcName → Option Value) (mg mb : Str → Option Value) (dp un : Nat) (gd : Option (List Code)) (cn : Str) (cs : Scope) (a : Addr) (ccd : Value) (cl : List (Str × Addr)) (outer : List Env) (A₀ : Around) (base h₀ : Heap) (L : Addr) (m : Str → Option Value) (s : Shared) (Q E : Value → Shared → Prop),
    Below A₀ base outer h₀ → Fr h₀ L s.heap m → (K w.params).In h₀ → News h₀ L s.heap news → Top V TL mean mg mb h₀ → G base → cs.kind = .function →
    dp + d < recursionLimit → un + u < cLine → Back h₀ L m news s Q R →
    wpAny (model PySem.Challenge.rw_pb0421_01.row.prog w) (ktrTop dp un gd cn cs L a ccd cl outer) (call (.ref f) vs) Q E s
theorem clls_use {K : Params → Frag} {V : Program} {TL : List Str} {w : World} {d u : Nat} {f : Addr} {vs : List Value} {G : Heap → Prop} {news : List (Addr × Obj)} {R : Value → List (Addr × Obj) → Prop} (C : Clls K V TL w d u f vs G news R)
    {mean : ExcName → Option Value} {mg mb : Str → Option Value} {dp un : Nat} {gd : Option (List Code)} {cn : Str} {cs : Scope} {a : Addr} {ccd : Value} {cl : List (Str × Addr)} {outer : List Env} {A₀ : Around} {base h₀ : Heap} {L : Addr} {m : Str → Option Value} {s : Shared} {Q E : Value → Shared → Prop}
    (B : Below A₀ base outer h₀) (F : Fr h₀ L s.heap m) (X : (K w.params).In h₀) (N : News h₀ L s.heap news) (T : Top V TL mean mg mb h₀) (g : G base) (hk : cs.kind = .function)
    (hd : dp + d < recursionLimit) (hu : un + u < cLine) (ret : Back h₀ L m news s Q R) :
    wpAny (model PySem.Challenge.rw_pb0421_01.row.prog w) (ktrTop dp un gd cn cs L a ccd cl outer) (call (.ref f) vs) Q E s :=
  by unfold Clls at C; exact C mean mg mb dp un gd cn cs a ccd cl outer A₀ base h₀ L m s Q E B F X N T g hk hd hu ret
noncomputable abbrev GT : Heap → Prop := fun _ => True
noncomputable abbrev RI (g : Int) : Value → List (Addr × Obj) → Prop := fun v add => add = [] ∧ ∃ t, v = .int g t
noncomputable abbrev RB (g : Bool) : Value → List (Addr × Obj) → Prop := fun v add => add = [] ∧ v = .bool g
noncomputable abbrev RS (g : Str) : Value → List (Addr × Obj) → Prop := fun v add => add = [] ∧ ∃ t, v = .str g t
noncomputable abbrev tup (vs : List Value) (n : Nat) : Obj := { cls := .type "tuple", data := .seq vs.toArray n }
noncomputable abbrev R3 (g : Int × Int × Int) : Value → List (Addr × Obj) → Prop := fun v add => ∃ D t1 t2 t3 n, v = .ref D ∧ add = [(D, tup [.int g.1 t1, .int g.2.1 t2, .int g.2.2 t3] n)]
section
variable {h₀ h' : Heap} {L : Addr} {m : Str → Option Value} {news led add : List (Addr × Obj)} {s : Shared} {Q : Value → Shared → Prop} {R : Value → List (Addr × Obj) → Prop} {v : Value} {tk : Nat}
theorem back_add (add : List (Addr × Obj)) (hret : Back h₀ L m news s Q R) (hR : R v add) (F : Fr h₀ L h' m) (N : News h₀ L h' led) (ha : ∀ p ∈ add, p ∈ led) (hs : ∀ p ∈ news, p ∈ led) (ho : ∀ q ∈ news, ∀ p ∈ add, q.1 < p.1) : Q v { s with heap := h', toks := tk } :=
  hret v add h' tk hR F (fun p hp => N p ((List.mem_append.mp hp).elim (ha p) (hs p))) ho
theorem back_i {g x : Int} {t : Tok} (hret : Back h₀ L m news s Q (RI g)) (F : Fr h₀ L h' m) (N : News h₀ L h' led) (hs : ∀ p ∈ news, p ∈ led) (e : x = g) : Q (.int x t) { s with heap := h', toks := tk } := by
  subst e; exact back_add [] hret ⟨rfl, t, rfl⟩ F N (fun _ h => nomatch h) hs (fun _ _ _ h => nomatch h)
theorem back_b {g x : Bool} (hret : Back h₀ L m news s Q (RB g)) (F : Fr h₀ L h' m) (N : News h₀ L h' led) (hs : ∀ p ∈ news, p ∈ led) (e : x = g) : Q (.bool x) { s with heap := h', toks := tk } := by
  subst e; exact back_add [] hret ⟨rfl, rfl⟩ F N (fun _ h => nomatch h) hs (fun _ _ _ h => nomatch h)
theorem back_s {g x : Str} {t : Tok} (hret : Back h₀ L m news s Q (RS g)) (F : Fr h₀ L h' m) (N : News h₀ L h' led) (hs : ∀ p ∈ news, p ∈ led) (e : x = g) : Q (.str x t) { s with heap := h', toks := tk } := by
  subst e; exact back_add [] hret ⟨rfl, t, rfl⟩ F N (fun _ h => nomatch h) hs (fun _ _ _ h => nomatch h)
theorem lt_one {D : Addr} {o : Obj} (h : AllLt D news) : ∀ q ∈ news, ∀ p ∈ [(D, o)], q.1 < p.1 := fun q hq p hp => by
  rw [List.mem_singleton.mp hp]; exact ktn_ltOf h q hq
theorem back_3 {g : Int × Int × Int} {x y z : Int} {t1 t2 t3 : Tok} {n : Nat} {D : Addr} (hret : Back h₀ L m news s Q (R3 g)) (F : Fr h₀ L h' m) (N : News h₀ L h' led) (hm : (D, tup [.int x t1, .int y t2, .int z t3] n) ∈ led) (hs : ∀ p ∈ news, p ∈ led) (hl : AllLt D news) (e : (x, y, z) = g) :
    Q (.ref D) { s with heap := h', toks := tk } := by
  subst e; exact back_add [(D, _)] hret ⟨D, t1, t2, t3, n, rfl, rfl⟩ F N (fun p hp => by rw [List.mem_singleton.mp hp]; exact hm) hs (lt_one hl)
end
end
end Mine
namespace Mine
theorem lt_back {news r : List (Addr × Obj)} {D : Addr} {o : Obj} (h : ∀ q ∈ news, ∀ p ∈ (D, o) :: r, q.1 < p.1) : ∀ q ∈ news, q.1 < D := fun q hq => h q hq _ (.head _)
theorem lt_back2 {news r : List (Addr × Obj)} {D : Addr} {o : Obj} {x : Addr × Obj} (h : ∀ q ∈ news, ∀ p ∈ x :: (D, o) :: r, q.1 < p.1) : ∀ q ∈ news, q.1 < D := fun q hq => h q hq _ (.tail _ (.head _))
end Mine
namespace Mine
theorem pin {K : Params → Frag} {V : Program} {TL : List Str} {w : World} {h h' : Heap} {mean : ExcName → Option Value} {mg mb : Str → Option Value} (_ : (K w.params).In h) (_ : Top V TL mean mg mb h') {C : (Params → Frag) → Program → List Str → World → Prop} (p : C K V TL w) : C K V TL w := p
structure OwnLoops : Prop where
  it : True
structure Own (n : Nat) : Prop where
  it : True
end Mine
end
section
open PySem PySem.W PyProof.Rows
namespace Mine
noncomputable section
noncomputable def gname (b : Int) : Str := [Str.ofString "rax", Str.ofString "rcx", Str.ofString "rdx", Str.ofString "rbx", Str.ofString "rsp", Str.ofString "rbp", Str.ofString "rsi", Str.ofString "rdi",
  Str.ofString "r8", Str.ofString "r9", Str.ofString "r10", Str.ofString "r11", Str.ofString "r12", Str.ofString "r13", Str.ofString "r14", Str.ofString "r15"].getD b.toNat (Str.ofString "")
noncomputable def wname (n : Int) : Str := if n = -1 then Str.ofString "" else if n = 16 then Str.ofString "rip" else gname n
noncomputable abbrev ent (P : Params) (x : String) (k : Tok) (v : Value) : DictEntry := ⟨PyData.keyHash P (Str.ofString x), .str (Str.ofString x) k, v⟩
noncomputable abbrev regDict (P : Params) (nm kd : Str) (b : Int) (k1 k2 k3 k4 t1 t2 t3 t4 : Tok) (n : Nat) : Obj :=
  dictOf [ent P "name" k1 (.str nm t1), ent P "kind" k2 (.str kd t2), ent P "number" k3 (.int b t3), ent P "size" k4 (.int 64 t4)] n
inductive RegIn (P : Params) (news : List (Addr × Obj)) : Value → Int → Prop
  | none : RegIn P news .none (-1)
  | rip {r dr : Addr} {k1 k2 k3 k4 t1 t2 t3 t4 : Tok} {n : Nat} : (r, instObj 255 dr) ∈ news → (dr, regDict P (Str.ofString "rip") (Str.ofString "rip") 0 k1 k2 k3 k4 t1 t2 t3 t4 n) ∈ news → RegIn P news (.ref r) 16
  | gpr {r dr : Addr} {k1 k2 k3 k4 t1 t2 t3 t4 : Tok} {n : Nat} (b : Int) : 0 ≤ b → b ≤ 15 → (r, instObj 255 dr) ∈ news → (dr, regDict P (gname b) (Str.ofString "gpr") b k1 k2 k3 k4 t1 t2 t3 t4 n) ∈ news → RegIn P news (.ref r) b
theorem RegIn.mono {P : Params} {news news' : List (Addr × Obj)} {v : Value} {b : Int} (h : RegIn P news v b) (s : ∀ p ∈ news, p ∈ news') : RegIn P news' v b := by
  cases h with
  | none => exact .none
  | rip a c => exact .rip (s _ a) (s _ c)
  | gpr b x y a c => exact .gpr b x y (s _ a) (s _ c)
theorem RegIn.handed {P : Params} {news : List (Addr × Obj)} {v : Value} {b : Int} (h : RegIn P news v b) : handedIn v = true := by cases h <;> rfl
noncomputable abbrev memDict (P : Params) (v1 v2 : Value) (sc wo sz : Int) (sg nm : Str) (k0 k1 k2 k3 k4 k5 k6 k7 t0 t3 t4 t5 t6 t7 : Tok) (n : Nat) : Obj :=
  dictOf [ent P "kind" k0 (.str (Str.ofString "mem") t0), ent P "base" k1 v1, ent P "index" k2 v2, ent P "scale" k3 (.int sc t3), ent P "worth" k4 (.int wo t4), ent P "size" k5 (.int sz t5), ent P "segment" k6 (.str sg t6), ent P "name" k7 (.str nm t7)] n
inductive MemIn (P : Params) (news : List (Addr × Obj)) : Value → Int → Int → Int → Int → Int → Str → Str → Prop
  | mk {x dx : Addr} {v1 v2 : Value} {b i sc wo sz : Int} {sg nm : Str} {k0 k1 k2 k3 k4 k5 k6 k7 t0 t3 t4 t5 t6 t7 : Tok} {n : Nat} :
    (x, instObj 173 dx) ∈ news → (dx, memDict P v1 v2 sc wo sz sg nm k0 k1 k2 k3 k4 k5 k6 k7 t0 t3 t4 t5 t6 t7 n) ∈ news → RegIn P news v1 b → RegIn P news v2 i → MemIn P news (.ref x) b i sc wo sz sg nm
theorem MemIn.mono {P : Params} {news news' : List (Addr × Obj)} {v : Value} {b i sc wo sz : Int} {sg nm : Str} (h : MemIn P news v b i sc wo sz sg nm) (s : ∀ p ∈ news, p ∈ news') : MemIn P news' v b i sc wo sz sg nm := by
  cases h with
  | mk a c d e => exact .mk (s _ a) (s _ c) (d.mono s) (e.mono s)
noncomputable abbrev shDict6 (P : Params) (q1 q2 q3 q4 q5 q6 : Int) (k1 k2 k3 k4 k5 k6 t1 t2 t3 t4 t5 t6 : Tok) (n : Nat) : Obj :=
  dictOf [ent P "mod" k1 (.int q1 t1), ent P "rm" k2 (.int q2 t2), ent P "sib" k3 (.int q3 t3), ent P "disp_width" k4 (.int q4 t4), ent P "x" k5 (.int q5 t5), ent P "b" k6 (.int q6 t6)] n
noncomputable abbrev shDict (P : Params) (s : Sh) (k1 k2 k3 k4 k5 k6 t1 t2 t3 t4 t5 t6 : Tok) (n : Nat) : Obj := shDict6 P s.mod s.rm s.sib s.wd s.x s.b k1 k2 k3 k4 k5 k6 t1 t2 t3 t4 t5 t6 n
inductive ShIn (P : Params) (news : List (Addr × Obj)) : Value → Sh → Prop
  | mk {x dx : Addr} {s : Sh} {k1 k2 k3 k4 k5 k6 t1 t2 t3 t4 t5 t6 : Tok} {n : Nat} : (x, instObj 367 dx) ∈ news → (dx, shDict P s k1 k2 k3 k4 k5 k6 t1 t2 t3 t4 t5 t6 n) ∈ news → ShIn P news (.ref x) s
theorem ShIn.mono {P : Params} {news news' : List (Addr × Obj)} {v : Value} {s : Sh} (h : ShIn P news v s) (u : ∀ p ∈ news, p ∈ news') : ShIn P news' v s := by
  cases h with
  | mk a c => exact .mk (u _ a) (u _ c)
end
end Mine
namespace Mine
noncomputable section
theorem gname_low {n : Int} (h0 : 0 ≤ n) (h : n < 8) : ([{ cps := #[114, 97, 120] }, { cps := #[114, 99, 120] }, { cps := #[114, 100, 120] }, { cps := #[114, 98, 120] }, { cps := #[114, 115, 112] }, { cps := #[114, 98, 112] }, { cps := #[114, 115, 105] }, { cps := #[114, 100, 105] }] : List Str).getD n.toNat Str.empty = gname n := by
  exact below (n := 8) (P := fun n => ([{ cps := #[114, 97, 120] }, { cps := #[114, 99, 120] }, { cps := #[114, 100, 120] }, { cps := #[114, 98, 120] }, { cps := #[114, 115, 112] }, { cps := #[114, 98, 112] }, { cps := #[114, 115, 105] }, { cps := #[114, 100, 105] }] : List Str).getD n.toNat Str.empty = gname n) h0 h (by decide +kernel)
theorem gname_high {n : Int} (h0 : ¬ n < 8) (h : n ≤ 15) : Str.ofString "r" ++ Str.ofString (toString n) ++ Str.ofString "" = gname n := by
  exact below (n := 16) (P := fun n => ¬ n < 8 → Str.ofString "r" ++ Str.ofString (toString n) ++ Str.ofString "" = gname n) (by omega) (Int.lt_of_le_of_lt h (by decide)) (by decide +kernel) h0
noncomputable abbrev RG (P : Params) (b : Int) : Value → List (Addr × Obj) → Prop := fun v add => ∃ r dr o, v = .ref r ∧ add = [(r, instObj 255 dr), (dr, o)] ∧ RegIn P [(r, instObj 255 dr), (dr, o)] (.ref r) b
noncomputable abbrev RN : Value → List (Addr × Obj) → Prop := fun v add => add = [] ∧ v = .none
section
variable {h₀ h' : Heap} {L : Addr} {m : Str → Option Value} {news led add : List (Addr × Obj)} {s : Shared} {Q : Value → Shared → Prop} {R : Value → List (Addr × Obj) → Prop} {v : Value} {tk : Nat}
theorem lt_two {D C : Addr} {o o' : Obj} (h : AllLt D news) (l : @LT.lt Nat _ D C) : ∀ q ∈ news, ∀ p ∈ [(C, o), (D, o')], q.1 < p.1 := fun q hq p hp => by
  have h1 := ktn_ltOf h q hq
  rcases List.mem_cons.mp hp with rfl | hp
  · exact Nat.lt_trans h1 l
  · rw [List.mem_singleton.mp hp]; exact h1
theorem lt_from {D : Addr} {l : List (Addr × Obj)} (h : ∀ q ∈ l, q.1 < D) (s : ∀ q ∈ news, q ∈ l) : AllLt D news := allLt_of fun q hq => h q (s q hq)
theorem lt_both {D C : Addr} {o o' : Obj} (h : AllLt D news) (l : AllLt C news) : ∀ q ∈ news, ∀ p ∈ [(C, o), (D, o')], q.1 < p.1 := fun q hq p hp => by
  rcases List.mem_cons.mp hp with rfl | hp
  · exact ktn_ltOf l q hq
  · rw [List.mem_singleton.mp hp]; exact ktn_ltOf h q hq
theorem sub_two {p q : Addr × Obj} (hp : p ∈ led) (hq : q ∈ led) : ∀ x ∈ [p, q], x ∈ led := fun x hx => by
  rcases List.mem_cons.mp hx with rfl | hx
  · exact hp
  · rw [List.mem_singleton.mp hx]; exact hq
theorem back_n (hret : Back h₀ L m news s Q RN) (F : Fr h₀ L h' m) (N : News h₀ L h' led) (hs : ∀ p ∈ news, p ∈ led) : Q .none { s with heap := h', toks := tk } :=
  back_add [] hret ⟨rfl, rfl⟩ F N (fun _ h => nomatch h) hs (fun _ _ _ h => nomatch h)
theorem back_gpr {P : Params} {b : Int} {r dr : Addr} {nm : Str} {k1 k2 k3 k4 t1 t2 t3 t4 : Tok} {n : Nat} (hret : Back h₀ L m news s Q (RG P b)) (F : Fr h₀ L h' m) (N : News h₀ L h' led)
    (h1 : (r, instObj 255 dr) ∈ led) (h2 : (dr, regDict P nm (Str.ofString "gpr") b k1 k2 k3 k4 t1 t2 t3 t4 n) ∈ led) (hs : ∀ p ∈ news, p ∈ led) (l1 : AllLt dr news) (l2 : dr < r) (b0 : 0 ≤ b) (b1 : b ≤ 15) (e : nm = gname b) :
    Q (.ref r) { s with heap := h', toks := tk } := by
  subst e
  exact back_add [(r, _), (dr, _)] hret ⟨r, dr, _, rfl, rfl, .gpr b b0 b1 (.head _) (.tail _ (.head _))⟩ F N (sub_two h1 h2) hs (lt_two l1 l2)
theorem back_rip {P : Params} {r dr : Addr} {k1 k2 k3 k4 t1 t2 t3 t4 : Tok} {n : Nat} (hret : Back h₀ L m news s Q (RG P 16)) (F : Fr h₀ L h' m) (N : News h₀ L h' led)
    (h1 : (r, instObj 255 dr) ∈ led) (h2 : (dr, regDict P (Str.ofString "rip") (Str.ofString "rip") 0 k1 k2 k3 k4 t1 t2 t3 t4 n) ∈ led) (hs : ∀ p ∈ news, p ∈ led) (l1 : AllLt dr news) (l2 : dr < r) :
    Q (.ref r) { s with heap := h', toks := tk } :=
  back_add [(r, _), (dr, _)] hret ⟨r, dr, _, rfl, rfl, .rip (.head _) (.tail _ (.head _))⟩ F N (sub_two h1 h2) hs (lt_two l1 l2)
end
end
end Mine
namespace Mine
theorem RegIn.split {P : Params} {news : List (Addr × Obj)} {v : Value} {b : Int} (h : RegIn P news v b) : (b = -1 ∧ v = .none) ∨ (b ≠ -1 ∧ ∃ r, v = .ref r) := by
  cases h with
  | none => exact .inl ⟨rfl, rfl⟩
  | rip _ _ => exact .inr ⟨by decide, _, rfl⟩
  | gpr b x y _ _ => exact .inr ⟨by omega, _, rfl⟩
end Mine
namespace Mine
theorem bit7 {b : Int} (h0 : 0 ≤ b) (h : b ≤ 15) : Builtin.bitAnd b 7 = Int.fmod b 8 :=
  below (n := 16) (P := fun b => Builtin.bitAnd b 7 = Int.fmod b 8) h0 (Int.lt_of_le_of_lt h (by decide)) (by decide +kernel)
theorem fm8 {b : Int} : 0 ≤ Int.fmod b 8 ∧ Int.fmod b 8 < 8 := ⟨Int.fmod_nonneg_of_pos _ (by decide), Int.fmod_lt_of_pos _ (by decide)⟩
noncomputable abbrev RL (ws : List Int) : Value → List (Addr × Obj) → Prop := fun v add => ∃ l vs n, v = .ref l ∧ add = [(l, W.listOf vs.toArray n)] ∧ IntsAre vs ws
theorem back_l {h₀ h' : Heap} {L : Addr} {m : Str → Option Value} {news led : List (Addr × Obj)} {s : Shared} {Q : Value → Shared → Prop} {tk : Nat} {ws : List Int} {l : Addr} {arr : Array Value} {n : Nat}
    (hret : Back h₀ L m news s Q (RL ws)) (F : Fr h₀ L h' m) (N : News h₀ L h' led) (hm : (l, W.listOf arr n) ∈ led) (hs : ∀ p ∈ news, p ∈ led) (hl : AllLt l news) (hi : IntsAre arr.toList ws) : Q (.ref l) { s with heap := h', toks := tk } :=
  back_add [(l, _)] hret ⟨l, arr.toList, n, rfl, rfl, hi⟩ F N (fun p hp => by rw [List.mem_singleton.mp hp]; exact hm) hs (lt_one hl)
end Mine
namespace Mine
inductive ShAll (P : Params) (news : List (Addr × Obj)) : List Value → List Sh → Prop
  | nil : ShAll P news [] []
  | cons {v : Value} {vs : List Value} {s : Sh} {ss : List Sh} : ShIn P news v s → ShAll P news vs ss → ShAll P news (v :: vs) (s :: ss)
section
variable {P : Params} {news news' tl add : List (Addr × Obj)} {vs ws : List Value} {ss zs : List Sh}
theorem ShAll.mono (h : ShAll P news vs ss) (u : ∀ p ∈ news, p ∈ news') : ShAll P news' vs ss := by
  induction h with
  | nil => exact .nil
  | cons a _ ih => exact .cons (a.mono u) ih
theorem ShAll.append (h : ShAll P news vs ss) (k : ShAll P news ws zs) : ShAll P news (vs ++ ws) (ss ++ zs) := by
  induction h with
  | nil => exact k
  | cons a _ ih => exact .cons a ih
theorem ShAll.length (h : ShAll P news vs ss) : vs.length = ss.length := by
  induction h with
  | nil => rfl
  | cons a _ ih => rw [List.length_cons, List.length_cons, ih]
theorem take_one {α β : Type} {ks : List α} {k : Nat} {n : α} {f : α → List β} (hn : ks[k]? = some n) : (ks.take (k + 1)).flatMap f = (ks.take k).flatMap f ++ f n := by
  rw [List.take_add_one, hn]; simp
theorem sh_end1 {us : Array Value} {ks : List Int} {k : Nat} {n : Int} {f : Int → List Sh} {v : Value} {s : Sh} (hI : ShAll P tl us.toList ((ks.take k).flatMap f)) (hn : ks[k]? = some n) (h1 : ShIn P add v s) (hf : f n = [s]) :
    ShAll P (add ++ tl) (us.push v).toList ((ks.take (k + 1)).flatMap f) := by
  rw [take_one hn, hf, Array.toList_push]
  exact (hI.mono fun p hp => List.mem_append.mpr (.inr hp)).append (.cons (h1.mono fun p hp => List.mem_append.mpr (.inl hp)) .nil)
theorem sh_end2 {us : Array Value} {ks : List Int} {k : Nat} {n : Int} {f : Int → List Sh} {v v' : Value} {s s' : Sh} (hI : ShAll P tl us.toList ((ks.take k).flatMap f)) (hn : ks[k]? = some n) (h1 : ShIn P add v s) (h2 : ShIn P add v' s') (hf : f n = [s, s']) :
    ShAll P (add ++ tl) ((us.push v).push v').toList ((ks.take (k + 1)).flatMap f) := by
  rw [take_one hn, hf, Array.toList_push, Array.toList_push, List.append_assoc]
  exact (hI.mono fun p hp => List.mem_append.mpr (.inr hp)).append (.cons (h1.mono fun p hp => List.mem_append.mpr (.inl hp)) (.cons (h2.mono fun p hp => List.mem_append.mpr (.inl hp)) .nil))
end
noncomputable abbrev RSh (P : Params) (ss : List Sh) : Value → List (Addr × Obj) → Prop := fun v add => ∃ l vs n tl, v = .ref l ∧ add = (l, W.listOf vs n) :: tl ∧ ShAll P tl vs.toList ss
noncomputable def Stop (P : Prop) : Prop := P
theorem stop_here {P : Prop} (h : Stop P) : P := h
end Mine
namespace Mine
theorem RegIn.gprOf {P : Params} {news : List (Addr × Obj)} {v : Value} {b : Int} (h : RegIn P news v b) (h0 : 0 ≤ b) (h1 : b ≤ 15) :
    ∃ r dr k1 k2 k3 k4 t1 t2 t3 t4 n, v = .ref r ∧ (r, instObj 255 dr) ∈ news ∧ (dr, regDict P (gname b) (Str.ofString "gpr") b k1 k2 k3 k4 t1 t2 t3 t4 n) ∈ news := by
  cases h with
  | none => exact absurd h0 (by decide)
  | rip _ _ => exact absurd h1 (by decide)
  | gpr b x y a c => exact ⟨_, _, _, _, _, _, _, _, _, _, _, rfl, a, c⟩
end Mine
namespace Mine
theorem wname_low {n : Int} (h0 : 0 ≤ n) (h : n < 8) : ([Str.ofString "rax", Str.ofString "rcx", Str.ofString "rdx", Str.ofString "rbx", Str.ofString "rsp", Str.ofString "rbp", Str.ofString "rsi", Str.ofString "rdi"] : List Str).getD n.toNat Str.empty = wname n := by
  exact below (n := 8) (P := fun n => ([Str.ofString "rax", Str.ofString "rcx", Str.ofString "rdx", Str.ofString "rbx", Str.ofString "rsp", Str.ofString "rbp", Str.ofString "rsi", Str.ofString "rdi"] : List Str).getD n.toNat Str.empty = wname n) h0 h (by decide +kernel)
theorem wname_high {n : Int} (h0 : ¬ n < 8) (h : n ≤ 15) : Str.ofString "r" ++ Str.ofString (toString n) = wname n := by
  exact below (n := 16) (P := fun n => ¬ n < 8 → Str.ofString "r" ++ Str.ofString (toString n) = wname n) (by omega) (Int.lt_of_le_of_lt h (by decide)) (by decide +kernel) h0
end Mine
namespace Mine
theorem fd64 {s : Int} (h0 : 0 ≤ s) (h : s < 256) : 0 ≤ Int.fdiv s 64 ∧ Int.fdiv s 64 ≤ 3 := by
  rw [Int.fdiv_eq_ediv_of_nonneg _ (by decide)]; omega
theorem shl_eq {k : Int} (h0 : 0 ≤ k) (h : k ≤ 3) : (2 : Int) ^ k.toNat = [1, 2, 4, 8].getD k.toNat 0 :=
  below (n := 4) (P := fun k => (2 : Int) ^ k.toNat = [1, 2, 4, 8].getD k.toNat 0) h0 (Int.lt_of_le_of_lt h (by decide)) (by decide)
noncomputable abbrev RM (P : Params) (b i sc wo sz : Int) (sg nm : Str) : Value → List (Addr × Obj) → Prop := fun v add => MemIn P add v b i sc wo sz sg nm
theorem back_mem {P : Params} {h₀ h' : Heap} {L : Addr} {m : Str → Option Value} {news led : List (Addr × Obj)} {s : Shared} {Q : Value → Shared → Prop} {tk : Nat} {b i sc wo sz b' i' sc' : Int} {sg nm : Str} {x dx : Addr} {v1 v2 : Value} {k0 k1 k2 k3 k4 k5 k6 k7 t0 t3 t4 t5 t6 t7 : Tok} {n : Nat}
    (hret : Back h₀ L m news s Q (RM P b i sc wo sz sg nm)) (A1 A2 : List (Addr × Obj)) (F : Fr h₀ L h' m) (N : News h₀ L h' led) (h1 : (x, instObj 173 dx) ∈ led) (h2 : (dx, memDict P v1 v2 sc' wo sz sg nm k0 k1 k2 k3 k4 k5 k6 k7 t0 t3 t4 t5 t6 t7 n) ∈ led)
    (g1 : RegIn P A1 v1 b') (g2 : RegIn P A2 v2 i') (s1 : ∀ p ∈ A1, p ∈ led) (s2 : ∀ p ∈ A2, p ∈ led) (hs : ∀ p ∈ news, p ∈ led) (l1 : AllLt dx news) (l2 : AllLt x news) (o1 : ∀ q ∈ news, ∀ p ∈ A1, q.1 < p.1) (o2 : ∀ q ∈ news, ∀ p ∈ A2, q.1 < p.1)
    (e : (b', i', sc') = (b, i, sc)) : Q (.ref x) { s with heap := h', toks := tk } := by
  obtain ⟨rfl, rfl, rfl⟩ : b' = b ∧ i' = i ∧ sc' = sc := by simpa using e
  refine back_add ([(x, instObj 173 dx), (dx, memDict P v1 v2 sc' wo sz sg nm k0 k1 k2 k3 k4 k5 k6 k7 t0 t3 t4 t5 t6 t7 n)] ++ (A1 ++ A2)) hret (.mk (.head _) (.tail _ (.head _)) (g1.mono fun p hp => ?_) (g2.mono fun p hp => ?_)) F N (fun p hp => ?_) hs fun q hq p hp => ?_
  · exact List.mem_append.mpr (.inr (List.mem_append.mpr (.inl hp)))
  · exact List.mem_append.mpr (.inr (List.mem_append.mpr (.inr hp)))
  · rcases List.mem_append.mp hp with hp | hp
    · exact sub_two h1 h2 p hp
    · rcases List.mem_append.mp hp with hp | hp
      · exact s1 p hp
      · exact s2 p hp
  · rcases List.mem_append.mp hp with hp | hp
    · exact lt_both l1 l2 q hq p hp
    · rcases List.mem_append.mp hp with hp | hp
      · exact o1 q hq p hp
      · exact o2 q hq p hp
theorem no_lt {news : List (Addr × Obj)} : ∀ q ∈ news, ∀ p ∈ ([] : List (Addr × Obj)), q.1 < p.1 := fun _ _ _ h => nomatch h
theorem no_sub {led : List (Addr × Obj)} : ∀ p ∈ ([] : List (Addr × Obj)), p ∈ led := fun _ h => nomatch h
end Mine
namespace Mine
noncomputable def PlOk (b i sc : Int) : Prop := -1 ≤ b ∧ b ≤ 16 ∧ (i = -1 ∧ sc = 1 ∨ b ≠ 16 ∧ 0 ≤ i ∧ i ≤ 15 ∧ i ≠ 4 ∧ (sc = 1 ∨ sc = 2 ∨ sc = 4 ∨ sc = 8))
theorem fm_lt {g m : Int} (h : 0 < m) : 0 ≤ Int.fmod g m ∧ Int.fmod g m < m := ⟨Int.fmod_nonneg_of_pos _ h, Int.fmod_lt_of_pos _ h⟩
theorem sc4 (g : Int) : ([1, 2, 4, 8] : List Int).getD (Int.fmod g 4).toNat 0 = 1 ∨ ([1, 2, 4, 8] : List Int).getD (Int.fmod g 4).toNat 0 = 2 ∨ ([1, 2, 4, 8] : List Int).getD (Int.fmod g 4).toNat 0 = 4 ∨ ([1, 2, 4, 8] : List Int).getD (Int.fmod g 4).toNat 0 = 8 :=
  below (n := 4) (P := fun k => ([1, 2, 4, 8] : List Int).getD k.toNat 0 = 1 ∨ ([1, 2, 4, 8] : List Int).getD k.toNat 0 = 2 ∨ ([1, 2, 4, 8] : List Int).getD k.toNat 0 = 4 ∨ ([1, 2, 4, 8] : List Int).getD k.toNat 0 = 8) (fm_lt (by decide)).1 (fm_lt (by decide)).2 (by decide)
theorem pl_none {b : Int} (hb : -1 ≤ b ∧ b ≤ 16) : PlOk b (-1) 1 := ⟨hb.1, hb.2, .inl ⟨rfl, rfl⟩⟩
theorem pl_none18 {g : Int} (h : Int.fmod g 18 ≠ 17) : PlOk (Int.fmod g 18) (-1) 1 := pl_none (by have := @fm_lt g 18 (by decide); omega)
theorem pl_full {b g1 g2 : Int} (hb : -1 ≤ b ∧ b ≤ 15) (ha : (([4, 16] : List Int).any fun x => x == Int.fmod g1 17) = false) : PlOk b (Int.fmod g1 17) (([1, 2, 4, 8] : List Int).getD (Int.fmod g2 4).toNat 0) := by
  have h := @fm_lt g1 17 (by decide)
  simp only [List.any_cons, List.any_nil, Bool.or_eq_false_iff, beq_eq_false_iff_ne, ne_eq] at ha
  exact ⟨hb.1, by omega, .inr ⟨by omega, h.1, by omega, by omega, sc4 g2⟩⟩
theorem pl_full18 {g g1 g2 : Int} (h : Int.fmod g 18 ≠ 17) (h6 : Int.fmod g 18 ≠ 16) (ha : (([4, 16] : List Int).any fun x => x == Int.fmod g1 17) = false) : PlOk (Int.fmod g 18) (Int.fmod g1 17) (([1, 2, 4, 8] : List Int).getD (Int.fmod g2 4).toNat 0) :=
  pl_full (by have := @fm_lt g 18 (by decide); omega) ha
end Mine
namespace Mine
theorem bd3 {g : Int} : 0 ≤ Int.fmod g 3 ∧ Int.fmod g 3 ≤ 3 := by have := @fm_lt g 3 (by decide); omega
theorem bd8 {g : Int} : 0 ≤ Int.fmod g 8 ∧ Int.fmod g 8 ≤ 7 := by have := @fm_lt g 8 (by decide); omega
theorem bd2 {g : Int} : Int.fmod g 2 = 0 ∨ Int.fmod g 2 = 1 := by have := @fm_lt g 2 (by decide); omega
theorem bdd {g : Int} : Int.fdiv (Int.fmod g 4) 2 = 0 ∨ Int.fdiv (Int.fmod g 4) 2 = 1 :=
  below (n := 4) (P := fun k => Int.fdiv k 2 = 0 ∨ Int.fdiv k 2 = 1) (fm_lt (by decide)).1 (fm_lt (by decide)).2 (by decide)
theorem bd256 {g : Int} : 0 ≤ Int.fmod g 256 ∧ Int.fmod g 256 < 256 := fm_lt (by decide)
end Mine
namespace Mine
theorem open_two {h₀ h : Heap} {L : Addr} {add led : List (Addr × Obj)} {e1 e2 : Addr × Obj} (h1 : e1 ∈ add) (h2 : e2 ∈ add) (N : News h₀ L h (add ++ led)) : News h₀ L h (e1 :: e2 :: (led ++ add)) := fun p hp => N p (by
  rcases List.mem_cons.mp hp with rfl | hp
  · exact List.mem_append.mpr (.inl h1)
  · rcases List.mem_cons.mp hp with rfl | hp
    · exact List.mem_append.mpr (.inl h2)
    · exact List.mem_append.mpr ((List.mem_append.mp hp).symm))
theorem mem_open {P : Params} {h₀ h : Heap} {L : Addr} {add led : List (Addr × Obj)} {v : Value} {b i sc wo sz : Int} {sg nm : Str} (g : MemIn P add v b i sc wo sz sg nm) (N : News h₀ L h (add ++ led)) :
    ∃ x dx v1 v2 k0 k1 k2 k3 k4 k5 k6 k7 t0 t3 t4 t5 t6 t7 n, v = .ref x ∧ News h₀ L h ((x, instObj 173 dx) :: (dx, memDict P v1 v2 sc wo sz sg nm k0 k1 k2 k3 k4 k5 k6 k7 t0 t3 t4 t5 t6 t7 n) :: (led ++ add)) := by
  cases g with
  | mk h1 h2 g1 g2 => exact ⟨_, _, _, _, _, _, _, _, _, _, _, _, _, _, _, _, _, _, _, rfl, open_two h1 h2 N⟩
end Mine
end
section
open PySem PySem.W PyProof.Rows
namespace Mine
noncomputable section
structure Rest (rest tl keep own : List (Addr × Obj)) (fa : Addr) : Prop where
  eq : rest = tl ++ (keep ++ own)
  off : ∀ p ∈ rest, p.1 ≠ fa
noncomputable abbrev turnM (x : Str) (v : Value) (stored : List Str) (u m₀ : Str → Option Value) : Str → Option Value := fun y => if y = x then some v else if stored.contains y then u y else m₀ y
noncomputable def EndM (h₀ : Heap) (L : Addr) (fa : Addr) (x : Str) (stored : List Str) (m₀ : Str → Option Value) (rest tl : List (Addr × Obj)) (I : List Value → List (Addr × Obj) → Prop) (s₁ s₂ : Shared) : Prop :=
  ∃ h' tk m' us' nn' add led, s₂ = { s₁ with heap := h', toks := tk } ∧ Fr h₀ L h' m' ∧ News h₀ L h' led ∧ (fa, W.listOf us' nn') ∈ led ∧ (∀ p ∈ rest, p ∈ led) ∧ (∀ p ∈ add, p ∈ led) ∧
    (∀ q ∈ add, q.1 ≠ fa ∧ ∀ p ∈ rest, p.1 < q.1) ∧ (∀ z, z ≠ x → stored.contains z = false → m' z = m₀ z) ∧ I us'.toList (add ++ tl)
theorem EndM.intro {h₀ h' : Heap} {L fa : Addr} {x : Str} {stored : List Str} {m₀ m' : Str → Option Value} {rest tl led : List (Addr × Obj)} {I : List Value → List (Addr × Obj) → Prop} {s₁ : Shared} {tk : Nat} {us' : Array Value} {nn' : Nat} (add : List (Addr × Obj))
    (F : Fr h₀ L h' m') (N : News h₀ L h' led) (hf : (fa, W.listOf us' nn') ∈ led) (hr : ∀ p ∈ rest, p ∈ led) (ha : ∀ p ∈ add, p ∈ led) (ho : ∀ q ∈ add, q.1 ≠ fa ∧ ∀ p ∈ rest, p.1 < q.1)
    (hm : ∀ z, z ≠ x → stored.contains z = false → m' z = m₀ z) (hI : I us'.toList (add ++ tl)) : EndM h₀ L fa x stored m₀ rest tl I s₁ { s₁ with heap := h', toks := tk } :=
  ⟨h', tk, m', us', nn', add, led, rfl, F, N, hf, hr, ha, ho, hm, hI⟩
noncomputable def PostM (h₀ : Heap) (L : Addr) (fa : Addr) (x : Str) (stored : List Str) (m₀ : Str → Option Value) (rest tl : List (Addr × Obj)) (I : List Value → List (Addr × Obj) → Prop) (s₁ : Shared) (Q : Flow → Shared → Prop) (f : Flow) (s₂ : Shared) : Prop :=
  match f with
  | .ret v => Q (.ret v) s₂
  | .brk => Q .next s₂
  | _ => EndM h₀ L fa x stored m₀ rest tl I s₁ s₂
noncomputable def LoopSt (fa : Addr) (keep : List (Addr × Obj)) (x : Str) (stored : List Str) (m₀ : Str → Option Value) (I : List Value → List (Addr × Obj) → Prop) (m : Str → Option Value) (nx : List (Addr × Obj)) : Prop :=
  ∃ us nn tl, nx = (fa, W.listOf us nn) :: (tl ++ keep) ∧ (∀ q ∈ tl, q.1 ≠ fa ∧ ∀ p ∈ keep, p.1 < q.1) ∧ (∀ z, z ≠ x → stored.contains z = false → m z = m₀ z) ∧ I us.toList tl
section
variable {prog : Program} {w : World} {A : Around} {E : Value → Shared → Prop} {s : Shared} {env : Env} {h₀ : Heap} {x : Str} {body : List Stmt} {Q : Flow → Shared → Prop} {m₀ : Str → Option Value} {fa : Addr} {keep : List (Addr × Obj)} {stored : List Str}
theorem turnM_eq {L : Addr} {h : Heap} {m : Str → Option Value} {v : Value} (hm : ∀ z, z ≠ x → stored.contains z = false → m z = m₀ z) (F : Fr h₀ L h (fun y => if y = x then some v else m y)) : Fr h₀ L h (turnM x v stored m m₀) := by
  have e : turnM x v stored m m₀ = fun y => if y = x then some v else m y := by
    funext y
    unfold turnM
    by_cases hy : y = x
    · rw [if_pos hy, if_pos hy]
    · rw [if_neg hy, if_neg hy]
      by_cases hs : stored.contains y = true
      · rw [if_pos hs]
      · rw [if_neg hs, hm y hy (by simpa using hs)]
  rw [e]; exact F
theorem doneM_eq {L : Addr} {h : Heap} {m : Str → Option Value} (hm : ∀ z, z ≠ x → stored.contains z = false → m z = m₀ z) (F : Fr h₀ L h m) : Fr h₀ L h (fun y => if y = x then m y else if stored.contains y then m y else m₀ y) := by
  have e : (fun y => if y = x then m y else if stored.contains y then m y else m₀ y) = m := by
    funext y
    by_cases hy : y = x
    · rw [if_pos hy]
    · rw [if_neg hy]
      by_cases hs : stored.contains y = true
      · rw [if_pos hs]
      · rw [if_neg hs, hm y hy (by simpa using hs)]
  rw [e]; exact F
theorem endG {tl own : List (Addr × Obj)} {nn : Nat} {us : Array Value} {I' : List Value → List (Addr × Obj) → Prop} {h : Heap} {tk : Nat} {rest : List (Addr × Obj)} {s₂ : Shared} {L : Addr}
    (hR : Rest rest tl keep own fa) (hord : ∀ q ∈ tl, q.1 ≠ fa ∧ ∀ p ∈ keep, p.1 < q.1) (hoff : OwnOff own (((fa, W.listOf us nn) :: (tl ++ keep)).map (·.1)))
    (e : EndM h₀ L fa x stored m₀ rest tl I' { s with heap := h, toks := tk } s₂) : InvEndG h₀ L (LoopSt fa keep x stored m₀ I') own { s with heap := h, toks := tk } s₂ := by
  obtain ⟨h', tk', m', us', nn', add, led, e, F, N, hf, hr, ha, ho, hm, hI⟩ := e
  have kR : ∀ p ∈ keep, p ∈ rest := fun p hp => by rw [hR.eq]; exact List.mem_append.mpr (.inr (List.mem_append.mpr (.inl hp)))
  have tR : ∀ p ∈ tl, p ∈ rest := fun p hp => by rw [hR.eq]; exact List.mem_append.mpr (.inl hp)
  have oR : ∀ p ∈ own, p ∈ rest := fun p hp => by rw [hR.eq]; exact List.mem_append.mpr (.inr (List.mem_append.mpr (.inr hp)))
  refine ⟨h', tk', m', led, (fa, W.listOf us' nn') :: ((add ++ tl) ++ keep), e, F, N, fun p hp => ?_, fun p hp => hr p (oR p hp), fun p hp b hb => ?_, us', nn', add ++ tl, rfl, fun q hq => ?_, hm, hI⟩
  · rcases List.mem_cons.mp hp with rfl | hp
    · exact hf
    · rcases List.mem_append.mp hp with hp | hp
      · rcases List.mem_append.mp hp with hp | hp
        · exact ha p hp
        · exact hr p (tR p hp)
      · exact hr p (kR p hp)
  · obtain ⟨q, hq, rfl⟩ := List.mem_map.mp hb
    rcases List.mem_cons.mp hq with rfl | hq
    · exact hR.off p (oR p hp)
    · rcases List.mem_append.mp hq with hq | hq
      · rcases List.mem_append.mp hq with hq | hq
        · exact Nat.ne_of_lt ((ho q hq).2 p (oR p hp))
        · exact hoff p hp _ (List.mem_map.mpr ⟨q, .tail _ (List.mem_append.mpr (.inl hq)), rfl⟩)
      · exact hoff p hp _ (List.mem_map.mpr ⟨q, .tail _ (List.mem_append.mpr (.inr hq)), rfl⟩)
  · rcases List.mem_append.mp hq with hq | hq
    · exact ⟨(ho q hq).1, fun p hp => (ho q hq).2 p (kR p hp)⟩
    · exact hord q hq
theorem loop_list {l : Addr} {vs : List Value} {nl : Nat} {us₀ : Array Value} {n₀ : Nat} {led : List (Addr × Obj)} (stored : List Str) (I : Nat → List Value → List (Addr × Obj) → Prop)
    (hh : A.handled = none) (F : Fr h₀ env.locals s.heap m₀) (N : News h₀ env.locals s.heap led) (hf : (fa, W.listOf us₀ n₀) ∈ led) (hk : ∀ p ∈ keep, p ∈ led) (hoff : ∀ p ∈ keep, p.1 ≠ fa) (hl : (l, W.listOf vs.toArray nl) ∈ keep) (start : I 0 us₀.toList [])
    (turn : ∀ i v (us : Array Value) nn tl own rest (u : Str → Option Value) h tk, vs[i]? = some v → I i us.toList tl → Rest rest tl keep own fa → (∀ p ∈ keep, p ∈ rest) → (∀ p ∈ tl, p ∈ rest) → (∀ q ∈ tl, ∀ p ∈ keep, p.1 < q.1) →
      Fr h₀ env.locals h (turnM x v stored u m₀) → News h₀ env.locals h ((fa, W.listOf us nn) :: rest) →
      wpAny (model prog w) A (execs body env) (PostM h₀ env.locals fa x stored m₀ rest tl (I (i + 1)) { s with heap := h, toks := tk } Q) E { s with heap := h, toks := tk })
    (done : ∀ (us : Array Value) nn tl (u : Str → Option Value) h tk, I vs.length us.toList tl → (∀ q ∈ tl, q.1 ≠ fa ∧ ∀ p ∈ keep, p.1 < q.1) → Fr h₀ env.locals h (fun y => if y = x then u y else if stored.contains y then u y else m₀ y) → News h₀ env.locals h ((fa, W.listOf us nn) :: (tl ++ keep)) → Q .next { s with heap := h, toks := tk }) :
    wpAny (model prog w) A (pyIter (.ref l)) (fun it s₂ => LoopAtV prog w A h₀ env x body Q E it s₂) E s := by
  refine kdl_iter (news := (fa, W.listOf us₀ n₀) :: ([] ++ keep)) (fun i m nx => LoopSt fa keep x stored m₀ (I i) m nx) hh (.tail _ hl) F (fun p hp => ?_) ⟨us₀, n₀, [], rfl, fun _ h => (nomatch h), fun _ _ _ => rfl, start⟩ ?_ ?_
  · rcases List.mem_cons.mp hp with rfl | hp
    · exact N _ hf
    · exact N _ (hk p hp)
  · rintro i v m₁ nx h tk own hv ho _ ⟨us, nn, tl, rfl, hord, hm, hI⟩ F₁ N₁
    have hR : Rest (tl ++ (keep ++ own)) tl keep own fa := ⟨rfl, fun p hp => by
      rcases List.mem_append.mp hp with hp | hp
      · exact (hord p hp).1
      · rcases List.mem_append.mp hp with hp | hp
        · exact hoff p hp
        · exact ho p hp fa (.head _)⟩
    have N₂ : News h₀ env.locals h ((fa, W.listOf us nn) :: (tl ++ (keep ++ own))) := fun p hp => N₁ p (by rw [List.cons_append, List.append_assoc]; exact hp)
    refine wpAny_mono (turn i v us nn tl own _ m₁ h tk hv hI hR (fun p hp => List.mem_append.mpr (.inr (List.mem_append.mpr (.inl hp)))) (fun p hp => List.mem_append.mpr (.inl hp)) (fun q hq => (hord q hq).2) (turnM_eq hm F₁) N₂) (fun f s₂ p => ?_) fun _ _ e => e
    have up : EndM h₀ env.locals fa x stored m₀ (tl ++ (keep ++ own)) tl (I (i + 1)) { s with heap := h, toks := tk } s₂ → InvEndG h₀ env.locals (fun m' nx => (l, W.listOf vs.toArray nl) ∈ nx ∧ LoopSt fa keep x stored m₀ (I (i + 1)) m' nx) own { s with heap := h, toks := tk } s₂ := by
      intro e
      obtain ⟨h', tk', m', news', nx', e', F', N', hn', ho', ha, hS⟩ := endG hR hord ho e
      refine ⟨h', tk', m', news', nx', e', F', N', hn', ho', ha, ?_, hS⟩
      obtain ⟨_, _, tl', rfl, _⟩ := hS
      exact .tail _ (List.mem_append.mpr (.inr hl))
    cases f with
    | ret v => exact p
    | brk => exact p
    | next => exact up p
    | cont => exact up p
  · rintro m₁ nx h tk ⟨us, nn, tl, rfl, hord, hm, hI⟩ F₁ N₁
    exact done us nn tl m₁ h tk hI hord (doneM_eq hm F₁) N₁
theorem loop_range {r : Addr} {b₀ : Int} {t₀ u₀ v₀ : Tok} {n : Nat} {us₀ : Array Value} {n₀ : Nat} {led : List (Addr × Obj)} (stored : List Str) (I : Nat → List Value → List (Addr × Obj) → Prop)
    (hh : A.handled = none) (hr : IsRange s.heap r 0 b₀ 1 t₀ u₀ v₀) (hsmall : Builtin.Range.small 0 b₀ 1 = true) (hsz : Builtin.Range.rangeSize 0 b₀ 1 = (n : Int)) (F : Fr h₀ env.locals s.heap m₀) (N : News h₀ env.locals s.heap led) (hf : (fa, W.listOf us₀ n₀) ∈ led) (hk : ∀ p ∈ keep, p ∈ led) (hoff : ∀ p ∈ keep, p.1 ≠ fa) (start : I 0 us₀.toList [])
    (turn : ∀ (i : Nat) t (us : Array Value) nn tl own rest (u : Str → Option Value) h tk, i < n → I i us.toList tl → Rest rest tl keep own fa → (∀ p ∈ keep, p ∈ rest) → (∀ p ∈ tl, p ∈ rest) → (∀ q ∈ tl, ∀ p ∈ keep, p.1 < q.1) →
      Fr h₀ env.locals h (turnM x (.int (i : Int) t) stored u m₀) → News h₀ env.locals h ((fa, W.listOf us nn) :: rest) →
      wpAny (model prog w) A (execs body env) (PostM h₀ env.locals fa x stored m₀ rest tl (I (i + 1)) { s with heap := h, toks := tk } Q) E { s with heap := h, toks := tk })
    (done : ∀ (us : Array Value) nn tl (u : Str → Option Value) h tk, I n us.toList tl → (∀ q ∈ tl, q.1 ≠ fa ∧ ∀ p ∈ keep, p.1 < q.1) → Fr h₀ env.locals h (fun y => if y = x then u y else if stored.contains y then u y else m₀ y) → News h₀ env.locals h ((fa, W.listOf us nn) :: (tl ++ keep)) → Q .next { s with heap := h, toks := tk }) :
    wpAny (model prog w) A (pyIter (.ref r)) (fun it s₂ => LoopAtV prog w A h₀ env x body Q E it s₂) E s := by
  have N0 : News h₀ env.locals s.heap ((fa, W.listOf us₀ n₀) :: ([] ++ keep)) := fun p hp => by
    rcases List.mem_cons.mp hp with rfl | hp
    · exact N _ hf
    · exact N _ (hk p hp)
  refine wpAny_pyIter_range hr hsmall ?_
  have Wk : Walks prog w A s.heap.objs.size [s.heap.objs.size] [s.heap.objs.size] n (fun i v => i < n ∧ ∃ t, v = .int (0 + i * 1) t)
      (fun i h => IsRangeIter h s.heap.objs.size (0 + (i : Nat) * 1) ((n : Int) - (i : Nat)) 1) := (Walks.range hh _ 0 1 n).bound
  refine kdr_loop (fun i m nx => LoopSt fa keep x stored m₀ (I i) m nx) Wk (fun _ h => h) (fun _ h => h) ?_ ?_ ?_ ?_ (by show IsRangeIter _ _ _ _ _; rw [hsz]; simpa using Heap.get?_push_size _ rfl) (F.push _) (fun p hp => ⟨Heap.get?_push_of_some _ (N0 p hp).1, (N0 p hp).2⟩) ⟨us₀, n₀, [], rfl, fun _ h => (nomatch h), fun _ _ _ => rfl, start⟩ ?_ ?_
  · intro i h hi b hb
    rw [List.mem_singleton.mp hb]
    exact ⟨_, hi⟩
  · intro hm
    exact absurd F.ns.lt ((List.mem_singleton.mp hm) ▸ Nat.lt_irrefl _)
  · intro b hb
    rw [List.mem_singleton.mp hb]
    exact next_is_new F
  · intro p hp hI
    exact absurd (Heap.lt_size (N0 p hp).1) ((List.mem_singleton.mp hI) ▸ Nat.lt_irrefl _)
  · rintro i v m₁ nx h tk own hi ⟨_, t, rfl⟩ ho ⟨us, nn, tl, rfl, hord, hm, hI⟩ F₁ N₁
    have e1 : (0 : Int) + (i : Int) * 1 = (i : Int) := by omega
    rw [e1] at F₁
    have hR : Rest (tl ++ (keep ++ own)) tl keep own fa := ⟨rfl, fun p hp => by
      rcases List.mem_append.mp hp with hp | hp
      · exact (hord p hp).1
      · rcases List.mem_append.mp hp with hp | hp
        · exact hoff p hp
        · exact ho p hp fa (.head _)⟩
    have N₂ : News h₀ env.locals h ((fa, W.listOf us nn) :: (tl ++ (keep ++ own))) := fun p hp => N₁ p (by rw [List.cons_append, List.append_assoc]; exact hp)
    refine wpAny_mono (turn i t us nn tl own _ m₁ h tk hi hI hR (fun p hp => List.mem_append.mpr (.inr (List.mem_append.mpr (.inl hp)))) (fun p hp => List.mem_append.mpr (.inl hp)) (fun q hq => (hord q hq).2) (turnM_eq hm F₁) N₂) (fun f s₂ p => ?_) fun _ _ e => e
    cases f with
    | ret v => exact p
    | brk => exact p
    | next => exact endG hR hord ho p
    | cont => exact endG hR hord ho p
  · rintro m₁ nx h tk ⟨us, nn, tl, rfl, hord, hm, hI⟩ F₁ N₁
    exact done us nn tl m₁ h tk hI hord (doneM_eq hm F₁) N₁
end
end
end Mine
namespace Mine
theorem back_grown {h₀ h' : Heap} {L : Addr} {m : Str → Option Value} {news keep tl : List (Addr × Obj)} {s : Shared} {Q : Value → Shared → Prop} {R : Value → List (Addr × Obj) → Prop} {tk : Nat} {fa : Addr} {o : Obj}
    (hret : Back h₀ L m news s Q R) (hR : R (.ref fa) ((fa, o) :: tl)) (F : Fr h₀ L h' m) (N : News h₀ L h' ((fa, o) :: (tl ++ keep))) (hk : ∀ p ∈ news, p ∈ keep) (hl : ∀ p ∈ news, p.1 < fa) (hord : ∀ q ∈ tl, q.1 ≠ fa ∧ ∀ p ∈ keep, p.1 < q.1) : Q (.ref fa) { s with heap := h', toks := tk } :=
  back_add ((fa, o) :: tl) hret hR F N (fun p hp => (List.mem_cons.mp hp).elim (fun e => e ▸ .head _) fun h => .tail _ (List.mem_append.mpr (.inl h))) (fun p hp => .tail _ (List.mem_append.mpr (.inr (hk p hp))))
    (fun q hq p hp => (List.mem_cons.mp hp).elim (fun e => e ▸ hl q hq) fun h => (hord p h).2 q (hk q hq))
theorem rest_lt {rest : List (Addr × Obj)} {D : Addr} {fa : Addr} (h : AllLt D rest) (hf : fa < D) : (D, (default : Obj)).1 ≠ fa ∧ ∀ p ∈ rest, p.1 < D := ⟨Nat.ne_of_gt hf, ktn_ltOf h⟩
theorem add_lt2 {rest : List (Addr × Obj)} {a b fa : Addr} {o o' : Obj} (ha : AllLt a rest) (hb : AllLt b rest) (fa1 : fa < a) (fb : fa < b) : ∀ q ∈ [(a, o), (b, o')], q.1 ≠ fa ∧ ∀ p ∈ rest, p.1 < q.1 := fun q hq => by
  rcases List.mem_cons.mp hq with rfl | hq
  · exact ⟨Nat.ne_of_gt fa1, ktn_ltOf ha⟩
  · rw [List.mem_singleton.mp hq]; exact ⟨Nat.ne_of_gt fb, ktn_ltOf hb⟩
theorem allLt_le {l : List (Addr × Obj)} {a b : Addr} (h : AllLt a l) (hab : a ≤ b) : AllLt b l := allLt_of fun p hp => Nat.lt_of_lt_of_le (ktn_ltOf h p hp) hab
end Mine
namespace Mine
theorem size_le {us : Array Value} {k n : Nat} (h : us.toList.length ≤ n * k) {vs : List Value} {v : Value} (hv : vs[k]? = some v) {m : Nat} (hm : vs.length ≤ m) : us.size ≤ n * m := by
  have hk : k < vs.length := (List.getElem?_eq_some_iff.mp hv).1
  rw [Array.length_toList] at h
  exact Nat.le_trans h (Nat.mul_le_mul_left n (by omega))
end Mine
end
section
open PySem PySem.W PyProof.Rows
namespace Mine
section
variable {P : Params} {h₀ h' : Heap} {L fa : Addr} {x : Str} {stored : List Str} {m₀ m' : Str → Option Value} {rest tl led : List (Addr × Obj)} {s₁ : Shared} {tk nn n1 n2 k : Nat} {us : Array Value} {ks : List Int} {n : Int} {f : Int → List Sh}
  {x1 d1 x2 d2 : Addr} {q1 q2 q3 q4 q5 q6 p1 p2 p3 p4 p5 p6 : Int} {k1 k2 k3 k4 k5 k6 t1 t2 t3 t4 t5 t6 j1 j2 j3 j4 j5 j6 u1 u2 u3 u4 u5 u6 : Tok}
theorem post1 (hI : ShAll P tl us.toList ((ks.take k).flatMap f) ∧ us.toList.length ≤ 2 * k) (hn : ks[k]? = some n) (F : Fr h₀ L h' m') (N : News h₀ L h' led) (hf : (fa, W.listOf (us.push (.ref x1)) nn) ∈ led)
    (h1 : (x1, instObj 367 d1) ∈ led) (h2 : (d1, shDict6 P q1 q2 q3 q4 q5 q6 k1 k2 k3 k4 k5 k6 t1 t2 t3 t4 t5 t6 n1) ∈ led) (hr : ∀ p ∈ rest, p ∈ led) (a1 : AllLt d1 rest) (b1 : AllLt x1 rest) (f1 : @LT.lt Nat _ fa d1) (l1 : @LT.lt Nat _ fa x1)
    (hm : ∀ z, z ≠ x → stored.contains z = false → m' z = m₀ z) (hs : f n = [⟨q1, q2, q3, q4, q5, q6⟩]) :
    EndM h₀ L fa x stored m₀ rest tl (fun us tl => ShAll P tl us ((ks.take (k + 1)).flatMap f) ∧ us.length ≤ 2 * (k + 1)) s₁ { s₁ with heap := h', toks := tk } :=
  EndM.intro [(x1, instObj 367 d1), (d1, _)] F N hf hr (sub_two h1 h2) (add_lt2 b1 a1 l1 f1) hm
    ⟨sh_end1 hI.1 hn (.mk (s := ⟨q1, q2, q3, q4, q5, q6⟩) (.head _) (.tail _ (.head _))) hs, by rw [Array.toList_push, List.length_append]; have := hI.2; simp only [List.length_cons, List.length_nil]; omega⟩
theorem post2 (hI : ShAll P tl us.toList ((ks.take k).flatMap f) ∧ us.toList.length ≤ 2 * k) (hn : ks[k]? = some n) (F : Fr h₀ L h' m') (N : News h₀ L h' led) (hf : (fa, W.listOf ((us.push (.ref x1)).push (.ref x2)) nn) ∈ led)
    (h1 : (x1, instObj 367 d1) ∈ led) (h2 : (d1, shDict6 P q1 q2 q3 q4 q5 q6 k1 k2 k3 k4 k5 k6 t1 t2 t3 t4 t5 t6 n1) ∈ led) (h3 : (x2, instObj 367 d2) ∈ led) (h4 : (d2, shDict6 P p1 p2 p3 p4 p5 p6 j1 j2 j3 j4 j5 j6 u1 u2 u3 u4 u5 u6 n2) ∈ led)
    (hr : ∀ p ∈ rest, p ∈ led) (a1 : AllLt d1 rest) (b1 : AllLt x1 rest) (a2 : AllLt d2 rest) (b2 : AllLt x2 rest) (f1 : @LT.lt Nat _ fa d1) (l1 : @LT.lt Nat _ fa x1) (l12 : @LT.lt Nat _ fa d2) (l2 : @LT.lt Nat _ fa x2)
    (hm : ∀ z, z ≠ x → stored.contains z = false → m' z = m₀ z) (hs : f n = [⟨q1, q2, q3, q4, q5, q6⟩, ⟨p1, p2, p3, p4, p5, p6⟩]) :
    EndM h₀ L fa x stored m₀ rest tl (fun us tl => ShAll P tl us ((ks.take (k + 1)).flatMap f) ∧ us.length ≤ 2 * (k + 1)) s₁ { s₁ with heap := h', toks := tk } := by
  refine EndM.intro [(x1, instObj 367 d1), (d1, shDict6 P q1 q2 q3 q4 q5 q6 k1 k2 k3 k4 k5 k6 t1 t2 t3 t4 t5 t6 n1), (x2, instObj 367 d2), (d2, shDict6 P p1 p2 p3 p4 p5 p6 j1 j2 j3 j4 j5 j6 u1 u2 u3 u4 u5 u6 n2)] F N hf hr ?_ ?_ hm ⟨sh_end2 hI.1 hn (.mk (s := ⟨q1, q2, q3, q4, q5, q6⟩) (.head _) (.tail _ (.head _))) (.mk (s := ⟨p1, p2, p3, p4, p5, p6⟩) (.tail _ (.tail _ (.head _))) (.tail _ (.tail _ (.tail _ (.head _))))) hs, by
      rw [Array.toList_push, List.length_append, Array.toList_push, List.length_append]; have := hI.2; simp only [List.length_cons, List.length_nil]; omega⟩
  · exact List.forall_mem_cons.mpr ⟨h1, List.forall_mem_cons.mpr ⟨h2, sub_two h3 h4⟩⟩
  · have e1 := add_lt2 (o := instObj 367 d1) (o' := shDict6 P q1 q2 q3 q4 q5 q6 k1 k2 k3 k4 k5 k6 t1 t2 t3 t4 t5 t6 n1) b1 a1 l1 f1
    have e2 := add_lt2 (o := instObj 367 d2) (o' := shDict6 P p1 p2 p3 p4 p5 p6 j1 j2 j3 j4 j5 j6 u1 u2 u3 u4 u5 u6 n2) b2 a2 l2 l12
    intro p hp
    rcases List.mem_cons.mp hp with h | hp
    · exact e1 p (h ▸ .head _)
    · rcases List.mem_cons.mp hp with h | hp
      · exact e1 p (h ▸ .tail _ (.head _))
      · exact e2 p hp
end
end Mine
end
section
open PySem PySem.W PyProof.Rows
namespace Mine
noncomputable def sibF (b : Int) (k : Nat) : Int := 8 * (k : Int) + (if b < 0 then 5 else Int.fmod b 8)
noncomputable def sibsTo (b : Int) (k : Nat) : List Int := (List.range k).map (sibF b)
noncomputable def lawOne (b i sc wo : Int) (named : Bool) (mod x y rm sib : Int) : List Sh :=
  if meaning mod rm sib x y = (b, i, sc) ∧ tidy mod rm sib x y = true ∧ bears (width mod rm sib) wo named = true then [⟨mod, rm, sib, width mod rm sib, x, y⟩] else []
noncomputable def lawRm (b i sc wo : Int) (named : Bool) (mod x y : Int) (rm : Nat) : List Sh := (if (rm : Int) = 4 then sibsTo b 32 else [-1]).flatMap (lawOne b i sc wo named mod x y rm)
noncomputable def lawBits (b i sc wo : Int) (named : Bool) (mod : Int) (k : Nat) : List Sh := (List.range 8).flatMap (lawRm b i sc wo named mod (Int.fdiv k 2) (Int.fmod k 2))
noncomputable def lawMod (b i sc wo : Int) (named : Bool) (k : Nat) : List Sh := (List.range 4).flatMap (lawBits b i sc wo named k)
noncomputable def lawAll (b i sc wo : Int) (named : Bool) : List Sh := (List.range 3).flatMap (lawMod b i sc wo named)
section
variable {α : Type} {e e1 e2 e3 x : α} {B : List α}
theorem keep0 : ∀ p ∈ B, p ∈ x :: B := fun _ h => .tail _ h
theorem keep1 : ∀ p ∈ e :: B, p ∈ e :: x :: B := fun _ h => (List.mem_cons.mp h).elim (fun q => q ▸ .head _) fun q => .tail _ (.tail _ q)
theorem keep2 : ∀ p ∈ e :: e1 :: B, p ∈ e :: e1 :: x :: B := fun p h => (List.mem_cons.mp h).elim (fun q => q ▸ .head _) fun q => .tail _ (keep1 p q)
theorem keep3 : ∀ p ∈ e :: e1 :: e2 :: B, p ∈ e :: e1 :: e2 :: x :: B := fun p h => (List.mem_cons.mp h).elim (fun q => q ▸ .head _) fun q => .tail _ (keep2 p q)
theorem range_succ_map {β : Type} (f : Nat → β) (k : Nat) : (List.range (k + 1)).map f = (List.range k).map f ++ [f k] := by rw [List.range_succ, List.map_append]; rfl
theorem range_succ_flat {β : Type} (f : Nat → List β) (k : Nat) : (List.range (k + 1)).flatMap f = (List.range k).flatMap f ++ f k := by rw [List.range_succ, List.flatMap_append]; simp
end
inductive FIn (news : List (Addr × Obj)) : Value → Sh → Prop
  | mk {D : Addr} {s : Sh} {t1 t2 t3 t4 t5 t6 : Tok} {n : Nat} : (D, tup [.int s.mod t1, .int s.rm t2, .int s.sib t3, .int s.wd t4, .int s.x t5, .int s.b t6] n) ∈ news → FIn news (.ref D) s
inductive FAll (news : List (Addr × Obj)) : List Value → List Sh → Prop
  | nil : FAll news [] []
  | cons {v : Value} {vs : List Value} {s : Sh} {ss : List Sh} : FIn news v s → FAll news vs ss → FAll news (v :: vs) (s :: ss)
section
variable {news news' tl add : List (Addr × Obj)} {vs ws : List Value} {ss zs : List Sh} {v : Value} {s : Sh}
theorem FIn.mono (h : FIn news v s) (u : ∀ p ∈ news, p ∈ news') : FIn news' v s := by cases h with | mk a => exact .mk (u _ a)
theorem FAll.mono (h : FAll news vs ss) (u : ∀ p ∈ news, p ∈ news') : FAll news' vs ss := by
  induction h with
  | nil => exact .nil
  | cons a _ ih => exact .cons (a.mono u) ih
theorem FAll.append (h : FAll news vs ss) (k : FAll news ws zs) : FAll news (vs ++ ws) (ss ++ zs) := by
  induction h with
  | nil => exact k
  | cons a _ ih => exact .cons a ih
theorem FAll.length (h : FAll news vs ss) : vs.length = ss.length := by
  induction h with
  | nil => rfl
  | cons a _ ih => rw [List.length_cons, List.length_cons, ih]
end
noncomputable def Grow (u0 : List Value) (ss : List Sh) (us : List Value) (tl : List (Addr × Obj)) : Prop := ∃ nv, us = u0 ++ nv ∧ FAll tl nv ss
theorem Grow.start (u0 : List Value) : Grow u0 [] u0 [] := ⟨[], (List.append_nil _).symm, .nil⟩
theorem Grow.same {u0 us : List Value} {ss : List Sh} {tl : List (Addr × Obj)} (h : Grow u0 ss us tl) : Grow u0 (ss ++ []) us ([] ++ tl) := by rw [List.append_nil]; exact h
theorem Grow.more {u0 us us' : List Value} {ss zs : List Sh} {tl add : List (Addr × Obj)} (h : Grow u0 ss us tl) (g : Grow us zs us' add) : Grow u0 (ss ++ zs) us' (add ++ tl) := by
  obtain ⟨nv, rfl, a⟩ := h
  obtain ⟨nw, rfl, c⟩ := g
  exact ⟨nv ++ nw, List.append_assoc _ _ _, (a.mono fun p hp => List.mem_append.mpr (.inr hp)).append (c.mono fun p hp => List.mem_append.mpr (.inl hp))⟩
theorem Grow.one {us : List Value} {D : Addr} {q1 q2 q3 q4 q5 q6 : Int} {t1 t2 t3 t4 t5 t6 : Tok} {n : Nat} : Grow us [⟨q1, q2, q3, q4, q5, q6⟩] (us ++ [.ref D]) [(D, tup [.int q1 t1, .int q2 t2, .int q3 t3, .int q4 t4, .int q5 t5, .int q6 t6] n)] :=
  ⟨[.ref D], rfl, .cons (.mk (s := ⟨q1, q2, q3, q4, q5, q6⟩) (.head _)) .nil⟩
end Mine
namespace Mine
theorem sibs_size {b : Int} {k : Nat} {us : Array Value} (h : IntsAre us.toList (sibsTo b k)) : us.size = k := by
  have e := h.length
  rw [Array.length_toList, sibsTo, List.length_map, List.length_range] at e
  exact e
theorem sibs_step {b v : Int} {k : Nat} {us : Array Value} {t : Tok} (h : IntsAre us.toList (sibsTo b k)) (e : v = sibF b k) : IntsAre (us.push (.int v t)).toList (sibsTo b (k + 1)) := by
  subst e
  rw [Array.toList_push, sibsTo, range_succ_map]
  exact ksk_snoc h
end Mine
namespace Mine
theorem no_lt2 {fa : Addr} {rest : List (Addr × Obj)} : ∀ q ∈ ([] : List (Addr × Obj)), q.1 ≠ fa ∧ ∀ p ∈ rest, p.1 < q.1 := fun _ h => nomatch h
end Mine
namespace Mine
noncomputable abbrev RF (ss : List Sh) : Value → List (Addr × Obj) → Prop := fun v add => ∃ l vs n tl, v = .ref l ∧ add = (l, W.listOf vs n) :: tl ∧ FAll tl vs.toList ss
theorem Grow.all {us : List Value} {ss : List Sh} {tl : List (Addr × Obj)} (h : Grow [] ss us tl) : FAll tl us ss := by
  obtain ⟨nv, rfl, a⟩ := h
  exact a
theorem Grow.range {u0 us us' : List Value} {f : Nat → List Sh} {k : Nat} {tl add : List (Addr × Obj)} (h : Grow u0 ((List.range k).flatMap f) us tl) (g : Grow us (f k) us' add) : Grow u0 ((List.range (k + 1)).flatMap f) us' (add ++ tl) := by
  rw [range_succ_flat]; exact h.more g
theorem Grow.take {α : Type} {u0 us us' : List Value} {f : α → List Sh} {xs : List α} {n : α} {k : Nat} {tl add : List (Addr × Obj)} (h : Grow u0 ((xs.take k).flatMap f) us tl) (hn : xs[k]? = some n) (g : Grow us (f n) us' add) : Grow u0 ((xs.take (k + 1)).flatMap f) us' (add ++ tl) := by
  rw [take_one hn]; exact h.more g
theorem Grow.nil_of {us : List Value} {ss : List Sh} (e : ss = []) : Grow us ss us [] := by subst e; exact Grow.start us
theorem Grow.one_of {us : Array Value} {ss : List Sh} {D : Addr} {q1 q2 q3 q4 q5 q6 : Int} {t1 t2 t3 t4 t5 t6 : Tok} {n : Nat} (e : ss = [⟨q1, q2, q3, q4, q5, q6⟩]) : Grow us.toList ss (us.push (.ref D)).toList [(D, tup [.int q1 t1, .int q2 t2, .int q3 t3, .int q4 t4, .int q5 t5, .int q6 t6] n)] := by
  subst e; rw [Array.toList_push]; exact Grow.one
end Mine
namespace Mine
theorem sibs_bound {b n : Int} {k : Nat} (hb : -1 ≤ b ∧ b ≤ 16) (h : (sibsTo b 32)[k]? = some n) : 0 ≤ n ∧ n < 256 := by
  obtain ⟨j, hj, e⟩ := List.mem_map.mp (List.mem_of_getElem? h)
  have hj2 := List.mem_range.mp hj
  have q := @fm8 b
  subst e
  unfold sibF
  split <;> omega
theorem flat_len {α β : Type} {f : α → List β} {c : Nat} (h : ∀ x, (f x).length ≤ c) : ∀ xs : List α, (xs.flatMap f).length ≤ c * xs.length
  | [] => by simp
  | x :: xs => by
    have := flat_len h xs
    have := h x
    rw [List.flatMap_cons, List.length_append, List.length_cons, Nat.mul_succ]; omega
section
variable {b i sc wo mod x y rm sib : Int} {named : Bool}
theorem lawOne_len : (lawOne b i sc wo named mod x y rm sib).length ≤ 1 := by unfold lawOne; split <;> simp
theorem lawRm_len (k : Nat) : (lawRm b i sc wo named mod x y k).length ≤ 32 := by
  unfold lawRm
  refine Nat.le_trans (flat_len (fun _ => lawOne_len) _) ?_
  split <;> simp [sibsTo]
theorem lawBits_len (k : Nat) : (lawBits b i sc wo named mod k).length ≤ 256 := Nat.le_trans (flat_len (fun k => lawRm_len k) _) (by simp)
theorem lawMod_len (k : Nat) : (lawMod b i sc wo named k).length ≤ 1024 := Nat.le_trans (flat_len (fun k => lawBits_len k) _) (by simp)
end
theorem Grow.len {u0 us : List Value} {ss : List Sh} {tl : List (Addr × Obj)} (h : Grow u0 ss us tl) : us.length = u0.length + ss.length := by
  obtain ⟨nv, rfl, a⟩ := h
  rw [List.length_append, a.length]
theorem Grow.lenr {u0 us : List Value} {f : Nat → List Sh} {k c : Nat} {tl : List (Addr × Obj)} (h : Grow u0 ((List.range k).flatMap f) us tl) (hc : ∀ k, (f k).length ≤ c) : us.length ≤ u0.length + c * k := by
  have e := h.len
  have := flat_len hc (List.range k)
  rw [List.length_range] at this
  omega
theorem Grow.lent {α : Type} {u0 us : List Value} {f : α → List Sh} {xs : List α} {k c : Nat} {tl : List (Addr × Obj)} (h : Grow u0 ((xs.take k).flatMap f) us tl) (hc : ∀ k, (f k).length ≤ c) : us.length ≤ u0.length + c * xs.length := by
  have e := h.len
  have h1 := flat_len hc (xs.take k)
  have h2 : (xs.take k).length ≤ xs.length := by rw [List.length_take]; exact Nat.min_le_right _ _
  have h3 := Nat.mul_le_mul_left c h2
  omega
end Mine
namespace Mine
theorem toL {fa : Addr} {us : Array Value} {nn : Nat} {l : List (Addr × Obj)} (h : (fa, W.listOf us nn) ∈ l) : (fa, W.listOf us.toList.toArray nn) ∈ l := by rw [Array.toArray_toList]; exact h
end Mine
namespace Mine
section
variable {b i sc wo mod x y rm sib : Int} {named : Bool}
theorem one_yes (h1 : ((meaning mod rm sib x y).1 == b && ((meaning mod rm sib x y).2.1 == i && (meaning mod rm sib x y).2.2 == sc)) = true) (h2 : tidy mod rm sib x y = true) (h3 : bears (width mod rm sib) wo named = true) :
    lawOne b i sc wo named mod x y rm sib = [⟨mod, rm, sib, width mod rm sib, x, y⟩] := by
  simp only [Bool.and_eq_true, beq_iff_eq] at h1
  unfold lawOne
  rw [if_pos ⟨Prod.ext h1.1 (Prod.ext h1.2.1 h1.2.2), h2, h3⟩]
theorem one_no1 (h1 : ((meaning mod rm sib x y).1 == b && ((meaning mod rm sib x y).2.1 == i && (meaning mod rm sib x y).2.2 == sc)) = false) : lawOne b i sc wo named mod x y rm sib = [] := by
  unfold lawOne
  rw [if_neg]
  rintro ⟨e, -, -⟩
  rw [e] at h1
  simp at h1
theorem one_no2 (h2 : tidy mod rm sib x y = false) : lawOne b i sc wo named mod x y rm sib = [] := by
  unfold lawOne
  rw [if_neg]
  rintro ⟨-, e, -⟩
  rw [e] at h2
  exact nomatch h2
theorem one_no3 (h3 : bears (width mod rm sib) wo named = false) : lawOne b i sc wo named mod x y rm sib = [] := by
  unfold lawOne
  rw [if_neg]
  rintro ⟨-, -, e⟩
  rw [e] at h3
  exact nomatch h3
theorem Grow.rm4 {u0 us : List Value} {tl : List (Addr × Obj)} {n k : Nat} (h : Grow u0 (((sibsTo b 32).take n).flatMap (lawOne b i sc wo named mod x y (k : Int))) us tl) (hn : n = 32) (h4 : (k : Int) = 4) : Grow u0 (lawRm b i sc wo named mod x y k) us tl := by
  subst hn
  rw [show (sibsTo b 32).take 32 = sibsTo b 32 from List.take_of_length_le (by simp [sibsTo])] at h
  unfold lawRm
  rw [if_pos h4]; exact h
theorem Grow.rm1 {u0 us : List Value} {tl : List (Addr × Obj)} {k : Nat} (h : Grow u0 ((([-1] : List Int).take 1).flatMap (lawOne b i sc wo named mod x y (k : Int))) us tl) (h4 : (k : Int) ≠ 4) : Grow u0 (lawRm b i sc wo named mod x y k) us tl := by
  unfold lawRm
  rw [if_neg h4]; exact h
end
theorem ho_one {D fa : Addr} {o : Obj} {rest : List (Addr × Obj)} (h1 : @LT.lt Nat _ fa D) (h2 : AllLt D rest) : ∀ q ∈ [(D, o)], q.1 ≠ fa ∧ ∀ p ∈ rest, p.1 < q.1 := fun q hq => by
  rw [List.mem_singleton.mp hq]; exact ⟨Nat.ne_of_gt h1, ktn_ltOf h2⟩
end Mine
end
section
open PySem PySem.W PyProof.Rows
namespace Mine
noncomputable def Holds {α : Type} (n : Nat) (lt : Nat → Nat → Bool) (P : α → Prop) : KasT α → Prop
  | .ret a => P a
  | .ask i j k => i < n ∧ j < n ∧ Holds n lt P (k (lt i j))
theorem Holds.mono {α : Type} {n : Nat} {lt : Nat → Nat → Bool} {P Q : α → Prop} (h : ∀ a, P a → Q a) : ∀ t : KasT α, Holds n lt P t → Holds n lt Q t
  | .ret a, p => h a p
  | .ask _ _ k, p => ⟨p.1, p.2.1, Holds.mono h (k _) p.2.2⟩
theorem Holds.bind {α β : Type} {n : Nat} {lt : Nat → Nat → Bool} {P : β → Prop} {f : α → KasT β} : ∀ t : KasT α, Holds n lt (fun a => Holds n lt P (f a)) t → Holds n lt P (t.bind f)
  | .ret _, p => p
  | .ask _ _ k, p => ⟨p.1, p.2.1, Holds.bind (k _) p.2.2⟩
theorem Holds.wp {α : Type} {n : Nat} {lt : Nat → Nat → Bool} {P : α → Prop} {cmp : Nat → Nat → (Bool → Shared → Prop) → Shared → Prop} {Inv : Shared → Prop}
    (hc : ∀ i j C s, i < n → j < n → Inv s → (∀ s', Inv s' → C (lt i j) s') → cmp i j C s) {Q : α → Shared → Prop} (hq : ∀ a s, P a → Inv s → Q a s) : ∀ (t : KasT α) (s : Shared), Holds n lt P t → Inv s → t.kasWp cmp Q s
  | .ret a, s, p, i => hq a s p i
  | .ask a b k, s, p, i => hc a b _ s p.1 p.2.1 i fun s' i' => Holds.wp hc hq (k _) s' p.2.2 i'
end Mine
namespace Mine
noncomputable abbrev gp (p : Array Nat) (i : Nat) : Nat := p.getD i 0
structure Good (n : Nat) (p : Array Nat) : Prop where
  size : p.size = n
  perm : p.toList.Perm (List.range n)
theorem gp_some {p : Array Nat} {i x : Nat} (h : p[i]? = some x) : gp p i = x := by
  unfold gp; rw [Array.getD_eq_getD_getElem?, h]; rfl
theorem gp_congr {p q : Array Nat} {i j : Nat} (h : p[i]? = q[j]?) : gp p i = gp q j := by
  unfold gp; rw [Array.getD_eq_getD_getElem?, Array.getD_eq_getD_getElem?, h]
theorem Good.lt {n : Nat} {p : Array Nat} (h : Good n p) {i : Nat} (hi : i < n) : gp p i < n := by
  have h1 : i < p.size := by rw [h.size]; exact hi
  have e : gp p i = p[i] := by simp [gp, Array.getD, h1]
  have m : p[i] ∈ p.toList := by rw [← Array.mem_def]; exact Array.getElem_mem h1
  rw [e]; exact List.mem_range.mp (h.perm.mem_iff.mp m)
theorem Good.ne {n : Nat} {p : Array Nat} (h : Good n p) {i j : Nat} (hi : i < n) (hj : j < n) (hij : i ≠ j) : gp p i ≠ gp p j := by
  have nd : p.toList.Nodup := h.perm.nodup_iff.mpr List.nodup_range
  have l1 : i < p.size := by rw [h.size]; exact hi
  have l2 : j < p.size := by rw [h.size]; exact hj
  have e1 : gp p i = p.toList[i]'(by simpa using l1) := by simp [gp, Array.getD, l1]
  have e2 : gp p j = p.toList[j]'(by simpa using l2) := by simp [gp, Array.getD, l2]
  intro e
  rw [e1, e2] at e
  have pw := List.pairwise_iff_getElem.mp nd
  rcases Nat.lt_or_gt_of_ne hij with q | q
  · exact pw i j _ _ q e
  · exact pw j i _ _ q e.symm
theorem Good.step {n : Nat} {p q : Array Nat} (h : Good n p) (e : q.Perm p) (es : q.size = p.size) : Good n q := ⟨es.trans h.size, (Array.perm_iff_toList_perm.mp e).trans h.perm⟩
theorem Good.range (n : Nat) : Good n (List.toArray (List.range n)) := ⟨by simp, by simp⟩
noncomputable abbrev Inc (lt : Nat → Nat → Bool) (p : Array Nat) (m : Nat) : Prop := ∀ a b, a < b → b < m → lt (gp p a) (gp p b) = true
structure Ord (n : Nat) (lt : Nat → Nat → Bool) : Prop where
  tot : ∀ i j, i < n → j < n → i ≠ j → lt i j = false → lt j i = true
  tr : ∀ i j k, i < n → j < n → k < n → lt i j = true → lt j k = true → lt i k = true
section
variable {n : Nat} {lt : Nat → Nat → Bool}
theorem Ord.flip (O : Ord n lt) : Ord n (fun i j => lt j i) := ⟨fun i j hi hj h e => O.tot j i hj hi (Ne.symm h) e, fun i j k hi hj hk a b => O.tr k j i hk hj hi b a⟩
theorem Inc.one {p : Array Nat} : Inc lt p 1 := fun a _ h1 h2 => absurd (Nat.lt_of_lt_of_le h1 (Nat.le_of_lt_succ h2)) (Nat.not_lt_zero a)
theorem Inc.grow (O : Ord n lt) {p : Array Nat} (G : Good n p) {k : Nat} (h : Inc lt p k) (h1 : 1 ≤ k) (hk : k < n) (hl : lt (gp p (k - 1)) (gp p k) = true) : Inc lt p (k + 1) := fun a b h2 h3 => by
  rcases Nat.lt_or_ge b k with q | q
  · exact h a b h2 q
  · obtain rfl : b = k := Nat.le_antisymm (Nat.le_of_lt_succ h3) q
    have h4 : b - 1 < b := Nat.sub_lt h1 Nat.one_pos
    rcases Nat.lt_or_ge a (b - 1) with q' | q'
    · exact O.tr _ _ _ (G.lt (Nat.lt_trans h2 hk)) (G.lt (Nat.lt_trans h4 hk)) (G.lt hk) (h a (b - 1) q' h4) hl
    · rw [show a = b - 1 from Nat.le_antisymm (Nat.le_sub_one_of_lt h2) q']; exact hl
theorem more {k f n : Nat} (h : k + (f + 1) ≤ n) : k + 1 + f ≤ n := Nat.le_trans (Nat.le_of_eq (Nat.succ_add k f)) h
theorem holds_asc (O : Ord n lt) {p : Array Nat} (G : Good n p) : ∀ (f k : Nat), Inc lt p k → 1 ≤ k → k + f ≤ n →
    Holds n lt (fun m => k ≤ m ∧ m ≤ k + f ∧ Inc lt p m ∧ (m < k + f → lt (gp p m) (gp p (m - 1)) = true)) (kas_asc p f k)
  | 0, k, h, _, _ => ⟨Nat.le_refl _, Nat.le_refl _, h, fun q => absurd q (Nat.lt_irrefl k)⟩
  | f + 1, k, h, h1, h2 => by
    have hk : k < n := Nat.lt_of_lt_of_le (Nat.lt_add_of_pos_right (Nat.succ_pos f)) h2
    have h3 : k - 1 < k := Nat.sub_lt h1 Nat.one_pos
    have hk1 := Nat.lt_trans h3 hk
    refine ⟨G.lt hk, G.lt hk1, ?_⟩
    show Holds n lt _ (if lt (gp p k) (gp p (k - 1)) = true then KasT.ret k else kas_asc p f (k + 1))
    cases e : lt (gp p k) (gp p (k - 1)) with
    | true => exact ⟨Nat.le_refl _, Nat.le_add_right _ _, h, fun _ => e⟩
    | false =>
      exact Holds.mono (fun m ⟨a, b, c, d⟩ => ⟨Nat.le_of_succ_le a, Nat.le_trans b (Nat.le_of_eq (Nat.succ_add k f)), c, fun q => d (Nat.lt_of_lt_of_eq q (Nat.succ_add k f).symm)⟩) _ (holds_asc O G f (k + 1) (h.grow O G h1 hk (O.tot _ _ (G.lt hk) (G.lt hk1) (G.ne hk hk1 (Nat.ne_of_gt h3)) e)) (Nat.le_add_left 1 k) (more h2))
noncomputable abbrev Dec (lt : Nat → Nat → Bool) (p : Array Nat) (m : Nat) : Prop := ∀ a b, a < b → b < m → lt (gp p b) (gp p a) = true
theorem Dec.grow (O : Ord n lt) {p : Array Nat} (G : Good n p) {k : Nat} (h : Dec lt p k) (h1 : 1 ≤ k) (hk : k < n) (hl : lt (gp p k) (gp p (k - 1)) = true) : Dec lt p (k + 1) := Inc.grow O.flip G h h1 hk hl
theorem holds_desc (O : Ord n lt) {p : Array Nat} (G : Good n p) : ∀ (f k : Nat), Dec lt p k → 1 ≤ k → k + f ≤ n →
    Holds n lt (fun r => r.1 = p ∧ r.2.2 = 0 ∧ k ≤ r.2.1 ∧ r.2.1 ≤ n ∧ Dec lt p r.2.1) (kas_desc f p k 0)
  | 0, k, h, _, h2 => ⟨rfl, rfl, Nat.le_refl _, h2, h⟩
  | f + 1, k, h, h1, h2 => by
    have hk : k < n := Nat.lt_of_lt_of_le (Nat.lt_add_of_pos_right (Nat.succ_pos f)) h2
    have h3 : k - 1 < k := Nat.sub_lt h1 Nat.one_pos
    have hk1 := Nat.lt_trans h3 hk
    refine ⟨G.lt hk, G.lt hk1, ?_⟩
    cases e : lt (p.getD k 0) (p.getD (k - 1) 0) with
    | true =>
      exact Holds.mono (fun r ⟨a, b, c, d, g⟩ => ⟨a, b, Nat.le_of_succ_le c, d, g⟩) _ (holds_desc O G f (k + 1) (h.grow O G h1 hk e) (Nat.le_add_left 1 k) (more h2))
    | false =>
      refine ⟨G.lt hk1, G.lt hk, ?_⟩
      have e2 : lt (p.getD (k - 1) 0) (p.getD k 0) = true := O.tot _ _ (G.lt hk) (G.lt hk1) (G.ne hk hk1 (Nat.ne_of_gt h3)) e
      rw [e2]
      exact ⟨rfl, rfl, Nat.le_refl _, Nat.le_of_lt hk, h⟩
theorem rev_good {p : Array Nat} (G : Good n p) (m : Nat) : Good n (kas_rev p 0 m) := G.step (mirror_perm _ _ _ _) (mirror_size _ _ _ _)
theorem rev_gp {p : Array Nat} (G : Good n p) {m k : Nat} (hm : m ≤ n) (hk : k < m) : gp (kas_rev p 0 m) k = gp p (m - 1 - k) := by
  refine gp_congr ?_
  unfold kas_rev
  rw [getElem?_mirror_all (by rw [G.size]; exact hm), if_pos ⟨Nat.zero_le _, hk⟩, Nat.zero_add]
theorem rev_inc {p : Array Nat} (G : Good n p) {m : Nat} (hm : m ≤ n) (h : Dec lt p m) : Inc lt (kas_rev p 0 m) m := fun a b q1 q2 => by
  have hb : b ≤ m - 1 := Nat.le_sub_one_of_lt q2
  rw [rev_gp G hm (Nat.lt_trans q1 q2), rev_gp G hm q2]
  exact h _ _ (Nat.sub_lt_sub_left (Nat.lt_of_lt_of_le q1 hb) q1) (Nat.lt_of_le_of_lt (Nat.sub_le _ _) (Nat.sub_lt (Nat.lt_of_le_of_lt (Nat.zero_le _) q2) Nat.one_pos))
theorem dec_two {p : Array Nat} (h : lt (gp p 1) (gp p (1 - 1)) = true) : Dec lt p 2 := fun a b q1 q2 => match a, b, q1, q2 with
  | 0, 1, _, _ => h
  | a + 1, 1, q, _ => absurd (Nat.lt_of_succ_lt_succ q) (Nat.not_lt_zero a)
  | _, _ + 2, _, q => absurd (Nat.lt_of_succ_lt_succ (Nat.lt_of_succ_lt_succ q)) (Nat.not_lt_zero _)
theorem holds_tail (O : Ord n lt) {p : Array Nat} (G : Good n p) {m : Nat} (h1 : 1 ≤ m) (hm : m ≤ n) (h : Dec lt p m) : Holds n lt (fun r => Good n r.2 ∧ 1 ≤ r.1 ∧ r.1 ≤ n ∧ Inc lt r.2 r.1) (kas_tail3 m n p) :=
  have e : m + (n - m) = n := Nat.add_sub_cancel' hm
  Holds.bind _ (Holds.mono (fun _ ⟨b1, b2, b3, _⟩ => ⟨rev_good G m, Nat.le_trans h1 b1, e ▸ b2, b3⟩) _ (holds_asc O (rev_good G m) (n - m) m (rev_inc G hm h) h1 (Nat.le_of_eq e)))
theorem holds_count (O : Ord n lt) {p : Array Nat} (G : Good n p) (h2 : 2 ≤ n) :
    Holds n lt (fun r => Good n r.2 ∧ 1 ≤ r.1 ∧ r.1 ≤ n ∧ Inc lt r.2 r.1) (kas_count n p) := by
  have h0 : 1 + (n - 1) = n := Nat.add_sub_cancel' (Nat.le_of_succ_le h2)
  refine Holds.bind _ (Holds.mono ?_ _ (holds_asc O G (n - 1) 1 Inc.one (Nat.le_refl _) (Nat.le_of_eq h0)))
  rw [h0]
  rintro m ⟨h1, hm, hI, hD⟩
  by_cases e : m = n
  · rw [if_pos (beq_iff_eq.mpr e)]; exact ⟨G, h1, hm, hI⟩
  · have hlt := Nat.lt_of_le_of_ne hm e
    rw [if_neg (fun q => e (beq_iff_eq.mp q))]
    by_cases e1 : m > 1
    · rw [if_pos e1]
      have h3 : m - 1 < n := Nat.lt_of_le_of_lt (Nat.sub_le _ _) hlt
      refine ⟨G.lt (Nat.lt_of_lt_of_le Nat.two_pos h2), G.lt h3, ?_⟩
      have e2 : lt (p.getD 0 0) (p.getD (m - 1) 0) = true := hI 0 (m - 1) (Nat.sub_pos_of_lt e1) (Nat.sub_lt h1 Nat.one_pos)
      rw [e2]; exact ⟨G, h1, hm, hI⟩
    · rw [if_neg e1]
      obtain rfl : m = 1 := Nat.le_antisymm (Nat.le_of_not_lt e1) h1
      refine Holds.bind _ (Holds.mono ?_ _ (holds_desc O G (n - (1 + 1)) (1 + 1) (dec_two (hD h2)) (by decide) (Nat.le_of_eq (Nat.add_sub_cancel' h2))))
      rintro ⟨_, m, _⟩ ⟨rfl, rfl, a3, a4, a5⟩
      exact holds_tail O G (Nat.le_of_succ_le a3) a4 a5
theorem half {l r : Nat} (h : l < r) : l ≤ (l + r) / 2 ∧ (l + r) / 2 < r := by omega
theorem half_f {l r f c : Nat} (h : r - l ≤ f + 1) (h1 : l ≤ c) (h2 : c < r) : c - l ≤ f ∧ r - (c + 1) ≤ f := by omega
theorem holds_place (O : Ord n lt) {p : Array Nat} (G : Good n p) {k : Nat} (hk : k < n) (hI : Inc lt p k) : ∀ (f l r : Nat), l ≤ r → r ≤ k → r - l ≤ f → (∀ a, a < l → lt (gp p a) (gp p k) = true) → (∀ a, r ≤ a → a < k → lt (gp p k) (gp p a) = true) →
    Holds n lt (fun m => m ≤ k ∧ (∀ a, a < m → lt (gp p a) (gp p k) = true) ∧ (∀ a, m ≤ a → a < k → lt (gp p k) (gp p a) = true)) (kas_place p k f l r)
  | 0, l, r, h1, h2, h3, h4, h5 => by
    obtain rfl : r = l := Nat.le_antisymm (Nat.le_of_sub_eq_zero (Nat.le_zero.mp h3)) h1
    exact ⟨h2, h4, h5⟩
  | f + 1, l, r, h1, h2, h3, h4, h5 => by
    unfold kas_place
    by_cases e : l ≥ r
    · rw [if_pos e]
      obtain rfl : r = l := Nat.le_antisymm e h1
      exact ⟨h2, h4, h5⟩
    · rw [if_neg e]
      obtain ⟨c2, c1⟩ := half (Nat.lt_of_not_ge e)
      generalize (l + r) / 2 = c at c1 c2 ⊢
      obtain ⟨f1, f2⟩ := half_f h3 c2 c1
      have ck : c < k := Nat.lt_of_lt_of_le c1 h2
      have cn := Nat.lt_trans ck hk
      refine ⟨G.lt hk, G.lt cn, ?_⟩
      cases e1 : lt (p.getD k 0) (p.getD c 0) with
      | true =>
        refine holds_place O G hk hI f l c c2 (Nat.le_of_lt ck) f1 h4 fun a q1 q2 => ?_
        rcases Nat.eq_or_lt_of_le q1 with q | q
        · rw [← q]; exact e1
        · exact O.tr _ _ _ (G.lt hk) (G.lt cn) (G.lt (Nat.lt_trans q2 hk)) e1 (hI _ _ q q2)
      | false =>
        have e2 := O.tot _ _ (G.lt hk) (G.lt cn) (G.ne hk cn (Nat.ne_of_gt ck)) e1
        refine holds_place O G hk hI f (c + 1) r c1 h2 f2 (fun a q1 => ?_) h5
        rcases Nat.eq_or_lt_of_le (Nat.le_of_lt_succ q1) with q | q
        · rw [q]; exact e2
        · exact O.tr _ _ _ (G.lt (Nat.lt_trans q cn)) (G.lt cn) (G.lt hk) (hI a _ q ck) e2
theorem bubble_good {p : Array Nat} (G : Good n p) (k d : Nat) : Good n (bubble p k d) := G.step (bubble_perm _ _ _) (bubble_size _ _ _)
theorem bubble_gp {p : Array Nat} (G : Good n p) {k d : Nat} (hk : k < n) (hd : d ≤ k) (a : Nat) : gp (bubble p k d) a = if a = k - d then gp p k else if k - d < a ∧ a ≤ k then gp p (a - 1) else gp p a := by
  have h := getElem?_bubble (xs := p) (by rw [G.size]; exact hk) d hd a
  by_cases h1 : a = k - d
  · rw [if_pos h1] at h ⊢; exact gp_congr h
  · rw [if_neg h1] at h ⊢
    by_cases h2 : k - d < a ∧ a ≤ k
    · rw [if_pos h2] at h ⊢; exact gp_congr h
    · rw [if_neg h2] at h ⊢; exact gp_congr h
theorem ins_inc {R : Nat → Nat → Prop} {g h : Nat → Nat} {k m : Nat} (hI : ∀ a b, a < b → b < k → R (g a) (g b)) (lo : ∀ a, a < m → R (g a) (g k)) (hi : ∀ a, m ≤ a → a < k → R (g k) (g a)) (hm : m ≤ k) (e1 : h m = g k) (e2 : ∀ a, m ≤ a → a < k → h (a + 1) = g a) (e3 : ∀ a, a < m → h a = g a) (a b : Nat) (ab : a < b) (hb : b < k + 1) : R (h a) (h b) := by
  rcases Nat.lt_trichotomy b m with q | rfl | q
  · rw [e3 a (Nat.lt_trans ab q), e3 b q]; exact hI a b ab (Nat.lt_of_lt_of_le q hm)
  · rw [e3 a ab, e1]; exact lo a ab
  · cases b with
    | zero => exact absurd q (Nat.not_lt_zero m)
    | succ b =>
      have q' := Nat.le_of_lt_succ q
      have hb' := Nat.lt_of_succ_lt_succ hb
      rw [e2 b q' hb']
      rcases Nat.lt_trichotomy a m with r | rfl | r
      · rw [e3 a r]; exact hI a b (Nat.lt_of_lt_of_le r q') hb'
      · rw [e1]; exact hi b q' hb'
      · cases a with
        | zero => exact absurd r (Nat.not_lt_zero m)
        | succ a =>
          have ab' := Nat.lt_of_succ_lt_succ ab
          rw [e2 a (Nat.le_of_lt_succ r) (Nat.lt_trans ab' hb')]; exact hI a b ab' hb'
theorem holds_bin (O : Ord n lt) : ∀ (f k : Nat) (p : Array Nat), Good n p → Inc lt p k → k + f = n → Holds n lt (fun p => Good n p ∧ Inc lt p n) (kas_bin f p k)
  | 0, k, p, G, h, e => by
    obtain rfl : k = n := e
    exact ⟨G, h⟩
  | f + 1, k, p, G, h, e => by
    have hk : k < n := Nat.lt_of_lt_of_eq (Nat.lt_add_of_pos_right (Nat.succ_pos f)) e
    refine Holds.bind _ (Holds.mono ?_ _ (holds_place O G hk h k 0 k (Nat.zero_le _) (Nat.le_refl _) (Nat.le_refl _) (fun a q => absurd q (Nat.not_lt_zero a)) (fun a q1 q2 => absurd q1 (Nat.not_le_of_gt q2))))
    rintro m ⟨h1, h2, h3⟩
    have hb := bubble_gp G hk (Nat.sub_le k m)
    rw [Nat.sub_sub_self h1] at hb
    refine holds_bin O f (k + 1) _ (bubble_good G _ _) (ins_inc (R := fun i j => lt i j = true) (g := gp p) h h2 h3 h1 ((hb m).trans (if_pos rfl)) (fun a q1 q2 => (hb (a + 1)).trans ?_) (fun a q => (hb a).trans ?_)) ((Nat.succ_add k f).trans e)
    · rw [if_neg (Nat.ne_of_gt (Nat.lt_succ_of_le q1)), if_pos ⟨Nat.lt_succ_of_le q1, q2⟩]; rfl
    · rw [if_neg (Nat.ne_of_lt q), if_neg (fun r => Nat.lt_asymm q r.1)]
theorem holds_sort (O : Ord n lt) (h2 : 2 ≤ n) : Holds n lt (fun p => Good n p ∧ Inc lt p n) (kas_sort n) := by
  refine Holds.bind _ (Holds.mono ?_ _ (holds_count O (Good.range n) h2))
  rintro ⟨m, p⟩ ⟨G, h1, hm, hI⟩
  have e : max m 1 = m := Nat.max_eq_left h1
  dsimp only
  rw [e]
  by_cases c : m < n
  · rw [if_pos c]; exact holds_bin O _ _ _ G hI (Nat.add_sub_cancel' hm)
  · rw [if_neg c]
    obtain rfl : m = n := Nat.le_antisymm hm (Nat.le_of_not_lt c)
    exact ⟨G, hI⟩
end
end Mine
end
section
open PySem PySem.W PySem.Calls PyProof.Rows
namespace Mine
theorem so_snds : ∀ (ks vs : List Value), ks.length = vs.length → (List.zipWith Prod.mk ks vs).map (·.2) = vs
  | [], [], _ => rfl
  | _ :: ks, _ :: vs, h => by
    rw [List.zipWith_cons_cons, List.map_cons, so_snds ks vs (by simpa using h)]
section
variable {prog : Program} {w : World} {A : Around} {E : Value → Shared → Prop} {s : Shared} {h₀ : Heap} {L l a : Addr} {m : Str → Option Value} {news : List (Addr × Obj)} {vs : List Value}
theorem filled {hp : Heap} {xs : Array Value} {n : Nat} (g : Array Value → Array Value) (F : Fr h₀ L hp m) (N : News h₀ L hp news) (ho : hp.get? a = some (seqObj "list" xs n)) (haL : a ≠ L) (ha0 : h₀.get? a = none) (hna : ∀ p ∈ news, p.1 ≠ a) :
    ∃ c, (hp.update a (Obj.mapSeq g)).get? a = some (seqObj "list" (g xs) c) ∧ Fr h₀ L (hp.update a (Obj.mapSeq g)) m ∧ News h₀ L (hp.update a (Obj.mapSeq g)) news :=
  have same := Heap.SameBut.update hp a (Obj.mapSeq g)
  ⟨_, get?_update_seq ho g, kas_fr F same haL ha0, kas_news N same hna⟩
theorem news_push {hp : Heap} (N : News h₀ L hp news) (o : Obj) : News h₀ L (hp.push o) news := N.grown fun _ _ q => Heap.get?_push_of_some _ q
theorem copied (hp : Heap) (xs : Array Value) : ∀ b o, hp.get? b = some o → ((hp.push (seqObj "list" #[] 0)).update hp.objs.size (Obj.mapSeq (· ++ xs))).get? b = some o := fun _ _ q =>
  (Heap.get?_update_ne _ _ _ _ (Nat.ne_of_lt (Heap.lt_size q))).trans (Heap.get?_push_of_some _ q)
theorem sorted_open {kw : List (Str × Value)} {Q : Value → Shared → Prop} (F : Fr h₀ L s.heap m) (N : News h₀ L s.heap news) (hl : s.heap.IsList l vs.toArray) (h64 : vs.length < 64) (ha1 : argsOk "sorted" ⟨[.ref l], kw⟩) (ha2 : ∀ x, argsOk "list.sort" ⟨[.ref x], kw⟩)
    (h : ∀ D H P, Fr h₀ L H m → News h₀ L H news → H.get? D = some (seqObj "list" vs.toArray 0) → D ≠ L → h₀.get? D = none → (∀ q ∈ news, q.1 < D) → (∀ s', Q (.ref D) s' → P (.done (.ret .none)) s') → wpAny (model prog w) A.in1.in1 (Builtin.«list.sort» ⟨[.ref D], kw⟩) P E { s with heap := H }) :
    wpAny (model prog w) A (call (.builtin "sorted") [.ref l] kw) Q E s := by
  have big : vs.length ≤ sizeLine := Nat.le_trans (Nat.le_of_lt h64) (by rw [sizeLine_eq]; decide)
  refine call_function_entry_kw kind_sorted plain_sorted entry_sorted ha1 ?_
  unfold Builtin.«sorted»
  refine wpAny_bind (m := checkCount "sorted" 1 1 _) (wpAny_pure (wpAny_bind (collect_list hl (wpAny_bind (wpAny_newList ?_ big)) big)))
  have keep := copied s.heap vs.toArray
  dsimp only
  generalize (s.heap.push (seqObj "list" #[] 0)).update s.heap.objs.size (Obj.mapSeq (· ++ vs.toArray)) = K at keep ⊢
  have FK : Fr h₀ L K m := F.kept keep
  have NK : News h₀ L K news := N.grown keep
  have at_D : (K.push (seqObj "list" vs.toArray 0)).get? K.objs.size = some (seqObj "list" vs.toArray 0) := Heap.get?_push_size _ rfl
  exact wpAny_bind (wpAny_holding (wpAny_call_entry_kw slot_list_sort ⟨_, at_D, rfl⟩ entry_list_sort (h _ _ _ (FK.push _) (news_push NK _) at_D (Nat.ne_of_gt FK.ns.lt) (Heap.get?_none_of_le (Nat.le_trans F.above (Nat.le_of_lt FK.ns.lt))) (fun q hq => Heap.lt_size (NK q hq).1) fun _ q => ⟨_, rfl, wpAny_pure ⟨_, rfl, q⟩⟩) (ha2 _)))
theorem so_small {n : Nat} {P : PySem.Fin → Shared → Prop} (F : Fr h₀ L s.heap m) (N : News h₀ L s.heap news) (ho : s.heap.get? a = some (seqObj "list" vs.toArray n)) (haL : a ≠ L) (ha0 : h₀.get? a = none) (hna : ∀ p ∈ news, p.1 ≠ a) (h2 : vs.length < 2)
    (h : ∀ h' c, Fr h₀ L h' m → News h₀ L h' ((a, seqObj "list" vs.toArray c) :: news) → P (.done (.ret .none)) { s with heap := h' }) : wpAny (model prog w) A (Builtin.«list.sort» ⟨[.ref a], []⟩) P E s := by
  have big : vs.length ≤ sizeLine := Nat.le_trans (Nat.le_of_lt h2) (by rw [sizeLine_eq]; decide)
  have hs : vs.toArray.size < 2 := h2
  obtain ⟨e1, ho1, F1, N1⟩ := filled (fun _ => #[]) F N ho haL ha0 hna
  rw [list_sort_plain]
  refine wpAny_bind (listItems_at ho rfl (wpAny_bind (listUpdate_at ho rfl (wpAny_bind (seqEpoch_at ho1 rfl (wpAny_bind (wpAny_newTuple (wpAny_bind (wpAny_newList (wpAny_holding ?_) (Nat.zero_le _))) big)))) big (Nat.zero_le _))))
  dsimp only
  generalize s.heap.update a (Obj.mapSeq fun _ => #[]) = T at ho1 F1 N1 ⊢
  have ho3 := Heap.get?_push_of_some (seqObj "list" #[] 0) (Heap.get?_push_of_some (seqObj "tuple" vs.toArray 0) ho1)
  obtain ⟨c, ho4, F4, N4⟩ := filled (fun _ => vs.toArray) ((F1.push (seqObj "tuple" vs.toArray 0)).push (seqObj "list" #[] 0)) (news_push (news_push N1 _) _) ho3 haL ha0 hna
  have out : (arrOf (SortSt.mk' general' (vs.toArray.zip vs.toArray) #[] 7 none)).map (·.2) = vs.toArray := Array.toList_inj.mp ((Array.toList_map ..).trans ((congrArg _ (ksk_zip _ _)).trans (so_snds vs vs rfl)))
  rw [if_pos hs, if_pos hs]
  refine wpAny_bind (wpAny_pure ?_)
  rw [StateT.run_pure]
  refine wpAny_bind (wpAny_pure ?_)
  dsimp only
  rw [out]
  refine wpAny_bind (seqEpoch_at ho3 rfl (wpAny_bind (listUpdate_at ho3 rfl ?_ (Nat.zero_le _) (Nat.le_succ_of_le big))))
  rw [if_neg (by simp)]
  exact wpAny_pure (h _ c F4 (List.forall_mem_cons.mpr ⟨⟨ho4, haL, ha0⟩, N4⟩))
noncomputable abbrev Fresh (h₀ : Heap) (L : Addr) (m : Str → Option Value) (news : List (Addr × Obj)) (s : Shared) (Q : Value → Shared → Prop) (out : List Value) : Prop :=
  ∀ D h' tk c, Fr h₀ L h' m → News h₀ L h' ((D, W.listOf out.toArray c) :: news) → (∀ q ∈ news, q.1 < D) → Q (.ref D) { s with heap := h', toks := tk }
theorem sorted_small {Q : Value → Shared → Prop} (F : Fr h₀ L s.heap m) (N : News h₀ L s.heap news) (hl : s.heap.IsList l vs.toArray) (h2 : vs.length < 2) (h : Fresh h₀ L m news s Q vs) :
    wpAny (model prog w) A (call (.builtin "sorted") [.ref l]) Q E s :=
  sorted_open F N hl (Nat.lt_trans h2 (by decide)) (args_sorted1 _) (fun _ => args_list_sort _) fun D _ _ FH NH hD d1 d2 d3 hP => so_small FH NH hD d1 d2 (fun q hq => Nat.ne_of_lt (d3 q hq)) h2 fun h' c F' N' => hP _ (h D h' _ c F' N' d3)
end
end Mine
namespace Mine
noncomputable def lexI : List Int → List Int → Bool
  | a :: as, b :: bs => if a = b then lexI as bs else decide (a < b)
  | _, _ => false
theorem lexI_tot : ∀ (x y : List Int), x.length = y.length → x ≠ y → lexI x y = false → lexI y x = true
  | [], [], _, h, _ => absurd rfl h
  | [], _ :: _, h, _, _ => by simp at h
  | _ :: _, [], h, _, _ => by simp at h
  | a :: x, b :: y, h, hn, hl => by
    unfold lexI at hl ⊢
    by_cases e : a = b
    · subst e
      rw [if_pos rfl] at hl ⊢
      exact lexI_tot x y (by simpa using h) (fun q => hn (by rw [q])) hl
    · rw [if_neg e] at hl
      rw [if_neg (Ne.symm e)]
      have := of_decide_eq_false hl
      exact decide_eq_true (by omega)
theorem lexI_tr : ∀ (x y z : List Int), lexI x y = true → lexI y z = true → lexI x z = true
  | [], _, _, h, _ => by simp [lexI] at h
  | _ :: _, [], _, h, _ => by simp [lexI] at h
  | _ :: _, _ :: _, [], _, h => by simp [lexI] at h
  | a :: x, b :: y, c :: z, h, k => by
    unfold lexI at h k ⊢
    by_cases e : a = b
    · subst e
      rw [if_pos rfl] at h
      by_cases e2 : a = c
      · subst e2
        rw [if_pos rfl] at k ⊢
        exact lexI_tr x y z h k
      · rw [if_neg e2] at k ⊢; exact k
    · rw [if_neg e] at h
      by_cases e2 : b = c
      · subst e2; rw [if_neg e]; exact h
      · rw [if_neg e2] at k
        have h := of_decide_eq_true h
        have k := of_decide_eq_true k
        rw [if_neg (by omega)]
        exact decide_eq_true (by omega)
noncomputable abbrev shL (s : Sh) : List Int := [s.mod, s.rm, s.sib, s.wd, s.x, s.b]
noncomputable def ltSh (a b : Sh) : Bool := lexI (shL a) (shL b)
theorem shL_inj {a b : Sh} (h : shL a = shL b) : a = b := by
  cases a; cases b
  simp only [shL, List.cons.injEq, and_true] at h
  obtain ⟨rfl, rfl, rfl, rfl, rfl, rfl⟩ := h
  rfl
noncomputable abbrev sh0 : Sh := ⟨0, 0, 0, 0, 0, 0⟩
section
variable {α : Type} {ss : List α} {d : α}
theorem pick_all (ss : List α) (d : α) : (List.range ss.length).map (fun i => ss.getD i d) = ss := by
  apply List.ext_getElem
  · simp
  · intro i h1 h2; simp [h2]
theorem pick_perm {n : Nat} {p : Array Nat} (G : Good n p) (hn : ss.length = n) : (p.toList.map fun i => ss.getD i d).Perm ss := by
  subst hn
  have h := G.perm.map fun i => ss.getD i d
  rw [pick_all] at h
  exact h
theorem pick_pw {n : Nat} {p : Array Nat} {lt : Nat → Nat → Bool} {r : α → α → Bool} (G : Good n p) (I : Inc lt p n) (e : ∀ i j, lt i j = r (ss.getD i d) (ss.getD j d)) : (p.toList.map fun i => ss.getD i d).Pairwise (fun a b => r a b = true) := by
  rw [List.pairwise_map, List.pairwise_iff_getElem]
  intro i j hi hj hij
  have l1 : i < p.size := by simpa using hi
  have l2 : j < p.size := by simpa using hj
  have h := I i j hij (by rw [← G.size]; exact l2)
  have e1 : gp p i = p.toList[i] := by simp [gp, Array.getD, l1]
  have e2 : gp p j = p.toList[j] := by simp [gp, Array.getD, l2]
  rw [e1, e2, e] at h
  exact h
theorem ord_of {n : Nat} {r : α → α → Bool} (hn : ss.length = n) (nd : ss.Nodup) (tot : ∀ a b, a ∈ ss → b ∈ ss → a ≠ b → r a b = false → r b a = true) (tr : ∀ a b c, r a b = true → r b c = true → r a c = true) : Ord n (fun i j => r (ss.getD i d) (ss.getD j d)) := by
  subst hn
  refine ⟨fun i j hi hj hij h => ?_, fun i j k _ _ _ h k => tr _ _ _ h k⟩
  have e1 : ss.getD i d = ss[i] := by simp [hi]
  have e2 : ss.getD j d = ss[j] := by simp [hj]
  refine tot _ _ (by rw [e1]; exact List.getElem_mem hi) (by rw [e2]; exact List.getElem_mem hj) (fun q => ?_) h
  rw [e1, e2] at q
  have pw := List.pairwise_iff_getElem.mp nd
  rcases Nat.lt_or_gt_of_ne hij with c | c
  · exact pw i j hi hj c q
  · exact pw j i hj hi c q.symm
end
section
variable {news : List (Addr × Obj)} {vs : List Value} {ss : List Sh}
theorem FAll.at (h : FAll news vs ss) (d : Sh) : ∀ i, i < ss.length → FIn news (vs.getD i .none) (ss.getD i d) := by
  induction h with
  | nil => intro i hi; simp at hi
  | cons a _ ih =>
    intro i hi
    cases i with
    | zero => exact a
    | succ i => exact ih i (by simpa using hi)
theorem FAll.pick (h : FAll news vs ss) (d : Sh) : ∀ is : List Nat, (∀ i ∈ is, i < ss.length) → FAll news (is.map fun i => vs.getD i .none) (is.map fun i => ss.getD i d)
  | [], _ => .nil
  | i :: is, hi => .cons (h.at d i (hi i (.head _))) (FAll.pick h d is fun j hj => hi j (.tail _ hj))
theorem ltSh_ord {n : Nat} (hn : ss.length = n) (nd : ss.Nodup) : Ord n (fun i j => ltSh (ss.getD i sh0) (ss.getD j sh0)) :=
  ord_of hn nd (fun a b _ _ h k => lexI_tot _ _ rfl (fun q => h (shL_inj q)) k) fun a b c h k => lexI_tr _ _ _ h k
theorem good_lt {n : Nat} {p : Array Nat} (G : Good n p) : ∀ i ∈ p.toList, i < n := fun i hi => List.mem_range.mp (G.perm.mem_iff.mp hi)
end
section
variable {prog : Program} {w : World} {A : Around} {E : Value → Shared → Prop} {s : Shared} {h₀ : Heap} {L l : Addr} {m : Str → Option Value} {news : List (Addr × Obj)} {vs : List Value} {ss : List Sh}
theorem lex_one {a c : Int} {t u : Tok} {b : Bool} {Q : Bool → Shared → Prop} (h : Q (decide (a < c)) s) : wpAny (model prog w) A (oneLt' b (.int a t) (.int c u)) Q E s := by
  cases b with
  | true => exact oneLt_int h
  | false => exact kat_one _ _ (lt_int h)
theorem lex_int {a c : Int} {t u : Tok} {r : List (Value × Value)} {i : Nat} {b fin : Bool} {Q : Bool → Shared → Prop} (h1 : a = c → KatLex prog w A b fin Q r (i + 1) s) (h2 : a ≠ c → Q (decide (a < c)) s) :
    KatLex prog w A b fin Q ((.int a t, .int c u) :: r) i s := by
  refine kat_cons (wpAny_eqBool_int (kat_go (fun e => ?_) fun e => ?_))
  · exact kat_yes (h1 (beq_iff_eq.mp e))
  · exact kat_no (lex_one (h2 (beq_eq_false_iff_ne.mp e)))
theorem ask_F {b : Bool} {C : Bool → Shared → Prop} {x y : Value} {sx sy : Sh} (N : News h₀ L s.heap news) (hx : FIn news x sx) (hy : FIn news y sy) (h : C (ltSh sx sy) s) : wpAny (model prog w) A (keyLt' (tuples' b) x y) C E s := by
  cases hx with
  | mk hx =>
    cases hy with
    | mk hy =>
      refine kat_lt (N _ hx).1 rfl (N _ hy).1 rfl ?_
      unfold ltSh shL at h
      simp only [lexI] at h
      refine lex_int (fun e => ?_) (fun e => by rw [if_neg e] at h; exact h)
      rw [if_pos e] at h
      refine lex_int (fun e => ?_) (fun e => by rw [if_neg e] at h; exact h)
      rw [if_pos e] at h
      refine lex_int (fun e => ?_) (fun e => by rw [if_neg e] at h; exact h)
      rw [if_pos e] at h
      refine lex_int (fun e => ?_) (fun e => by rw [if_neg e] at h; exact h)
      rw [if_pos e] at h
      refine lex_int (fun e => ?_) (fun e => by rw [if_neg e] at h; exact h)
      rw [if_pos e] at h
      refine lex_int (fun e => ?_) (fun e => by rw [if_neg e] at h; exact h)
      rw [if_pos e] at h
      exact kat_nil h
theorem FAll.tups {h : Heap} (N : News h₀ L h news) (hA : FAll news vs ss) : ∃ fs, fs.length = vs.length ∧ KatTups h vs fs ∧ ∀ v ∈ fs, ∃ (x : Int) (t : Tok), v = .int x t := by
  induction hA with
  | nil => exact ⟨[], rfl, KatTups.nil, fun _ h => nomatch h⟩
  | cons a _ ih =>
    obtain ⟨fs, h1, h2, h3⟩ := ih
    cases a with
    | mk a =>
      refine ⟨_, ?_, KatTups.cons (N _ a).1 rfl rfl rfl h2, List.forall_mem_cons.mpr ⟨⟨_, _, rfl⟩, h3⟩⟩
      rw [List.length_cons, List.length_cons, h1]
theorem sortedF {Q : Value → Shared → Prop} (F : Fr h₀ L s.heap m) (N : News h₀ L s.heap news) (hl : s.heap.IsList l vs.toArray) (hA : FAll news vs ss) (nd : ss.Nodup) (h64 : ss.length < 64)
    (h : ∀ D h' tk c vs' ss', Fr h₀ L h' m → News h₀ L h' ((D, W.listOf vs'.toArray c) :: news) → (∀ q ∈ news, q.1 < D) → FAll news vs' ss' → ss'.Perm ss → ss'.Pairwise (fun a b => ltSh a b = true) → Q (.ref D) { s with heap := h', toks := tk }) :
    wpAny (model prog w) A (call (.builtin "sorted") [.ref l]) Q E s := by
  have hlen := hA.length
  by_cases h2 : 2 ≤ vs.length
  · refine kat_sorted F N hl h2 (by omega) fun D e1 h' F' N' l' => ?_
    obtain ⟨fs, f1, f2, f3⟩ := hA.tups (fun p hp => N' p (.tail _ hp))
    refine kat_kind (T := .type "int") f2 (by omega) (fun v hv => ?_) rfl ?_
    · obtain ⟨x, t, rfl⟩ := f3 v hv
      exact Looks.of_pure rfl
    · refine Holds.wp (Inv := fun s' => s' = { s with heap := h' }) (P := fun p => Good vs.length p ∧ Inc (fun i j => ltSh (ss.getD i sh0) (ss.getD j sh0)) p vs.length) (fun i j C s' hi hj e hc => ?_) (fun p s' hp e => ?_) _ _ (holds_sort (ltSh_ord hlen.symm nd) h2) rfl
      · subst e
        unfold kas_ask
        exact ask_F (news := news) (fun p hp => N' p (.tail _ hp)) (hA.at sh0 i (by omega)) (hA.at sh0 j (by omega)) (hc _ rfl)
      · subst e
        refine KasFin.intro F' N' (.head fun p hp => Nat.ne_of_lt (l' p hp)) fun h2 c F2 N2 => ?_
        exact h D h2 _ c _ _ F2 N2 l' (hA.pick sh0 p.toList fun i hi => by have := good_lt hp.1 i hi; omega) (pick_perm hp.1 hlen.symm) (pick_pw hp.1 hp.2 fun _ _ => rfl)
  · refine sorted_small F N hl (by omega) fun D h' tk c F' N' l' => h D h' tk c vs ss F' N' l' hA (List.Perm.refl _) ?_
    match ss, hlen, h2 with
    | [], _, _ => exact .nil
    | [_], _, _ => exact List.pairwise_singleton ..
    | _ :: _ :: _, e, h2 => simp at e; omega
end
end Mine
end
section
open PySem PySem.W PySem.Calls PyProof.Rows
namespace Mine
section
variable {prog : Program} {w : World} {A : Around} {E : Value → Shared → Prop} {s : Shared} {h₀ : Heap} {L l a kS : Addr} {m : Str → Option Value} {news : List (Addr × Obj)} {vs ks : List Value}
theorem kend1 {k v : Value} {e e1 : Nat} {P : PySem.Fin → Shared → Prop} (h : KatFin h₀ L m kS a [k] e e1 [v] (fun s' => P (.done (.ret .none)) s') s) : wpAny (model prog w) A (ksk_end a false #[v] e1 (.ref kS) #[k]) P E s := by
  unfold ksk_end
  dsimp only
  simp only [Bool.false_eq_true, if_false]
  have hs : (#[v] : Array Value).size < 2 := by simp
  rw [if_pos hs, if_pos hs]
  refine wpAny_bind (wpAny_pure ?_)
  rw [StateT.run_pure]
  refine wpAny_bind (wpAny_pure ?_)
  dsimp only
  exact kat_tail (ks := [k]) (out := [v]) (b := false) (by
    show ((#[k] : Array Value).zip #[v]).map (·.2) = #[v]
    apply Array.toList_inj.mp
    rw [Array.toList_map, ksk_zip]; rfl) (by simp) (by simp) rfl h
theorem led_upd {hp : Heap} {led : List (Addr × Obj)} {xs : Array Value} {n : Nat} {g : Obj → List (Addr × Obj)} (F : Fr h₀ L hp m) (N : News h₀ L hp led) (U : UpdF kS (seqObj "list" xs n) led g) (f : Array Value → Array Value) :
    ∃ c, hp.get? kS = some (seqObj "list" xs n) ∧ (hp.update kS (Obj.mapSeq f)).get? kS = some (seqObj "list" (f xs) c) ∧ Fr h₀ L (hp.update kS (Obj.mapSeq f)) m ∧ News h₀ L (hp.update kS (Obj.mapSeq f)) (g (seqObj "list" (f xs) c)) := by
  obtain ⟨pre, post, e0, hg, x1, x2⟩ := U.split
  rw [e0] at N
  have at_k := N (kS, seqObj "list" xs n) (List.mem_append_right _ (.head _))
  have same := Heap.SameBut.update hp kS (Obj.mapSeq f)
  have new := get?_update_seq at_k.1 f
  exact ⟨_, at_k.1, new, kas_fr F same at_k.2.1 at_k.2.2, by rw [hg]; exact news_set N x1 x2 same new⟩
theorem krest1 {v f : Value} {e1 : Nat} {P : PySem.Fin → Shared → Prop}
    (h : wpAny (model prog w) A (call f [v]) (KatBack h₀ L m kS [] 0 (fun k c s' => KatFin h₀ L m kS a [k] c e1 [v] (fun s4 => P (.done (.ret .none)) s4) s')) (fun _ _ => False) s) :
    wpAny (model prog w) A (ksk_rest a f false #[v] e1 (.ref kS)) P E s := by
  unfold ksk_rest
  refine wpAny_bind (wpAny_rule ?_)
  rw [show (#[v] : Array Value) = [v].toArray from rfl, List.forIn_toArray, List.forIn_cons]
  refine wpAny_bind (wpAny_bind (wpAny_bind (wpAny_attempt (wpAny_mono h (fun k s2 hk => ?_) fun _ _ no => no.elim))))
  obtain ⟨_, _, F2, N2, U, fin⟩ := hk
  obtain ⟨c, hk1, hk2, F3, N3⟩ := led_upd F2 N2 U (·.push k)
  dsimp only
  refine wpAny_bind (listUpdate_at hk1 rfl (wpAny_pure ?_) (Nat.zero_le _) (by rw [sizeLine_eq]; simp))
  dsimp only
  rw [List.forIn_nil]
  exact wpAny_pure (wpAny_bind (listItems_at hk2 rfl (kend1 (fin _ c F3 N3))))
theorem keyed1 {v f : Value} {n : Nat} {P : PySem.Fin → Shared → Prop} (F : Fr h₀ L s.heap m) (N : News h₀ L s.heap news) (ho : s.heap.get? a = some (seqObj "list" #[v] n)) (haL : a ≠ L) (ha0 : h₀.get? a = none) (hna : ∀ p ∈ news, p.1 ≠ a)
    (h : ∀ kS e1 h', Fr h₀ L h' m → News h₀ L h' ((kS, seqObj "list" #[] 0) :: (a, seqObj "list" #[] e1) :: news) → a < kS →
      wpAny (model prog w) A (call f [v]) (KatBack h₀ L m kS [] 0 (fun k c s' => KatFin h₀ L m kS a [k] c e1 [v] (fun s4 => P (.done (.ret .none)) s4) s')) (fun _ _ => False) { s with heap := h' }) :
    wpAny (model prog w) A (ksk_tree a f false) P E s := by
  have big : [v].length ≤ sizeLine := by rw [sizeLine_eq]; exact (by decide : 1 ≤ 16777216)
  obtain ⟨e1, ho1, F1, N1⟩ := filled (fun _ => #[]) F N ho haL ha0 hna
  unfold ksk_tree
  refine wpAny_bind (listItems_at ho rfl (wpAny_bind (listUpdate_at ho rfl (wpAny_bind (seqEpoch_at ho1 rfl (wpAny_bind (wpAny_newTuple (wpAny_bind (wpAny_newList (wpAny_holding ?_) (Nat.zero_le _))) big)))) big (Nat.zero_le _))))
  dsimp only
  replace ho1 := Heap.get?_push_of_some (seqObj "tuple" #[v] 0) ho1
  replace F1 := F1.push (seqObj "tuple" #[v] 0)
  replace N1 := news_push N1 (seqObj "tuple" #[v] 0)
  generalize (s.heap.update a (Obj.mapSeq fun _ => #[])).push (seqObj "tuple" #[v] 0) = T at ho1 F1 N1 ⊢
  exact krest1 (h _ e1 _ (F1.push _) (List.forall_mem_cons.mpr ⟨⟨Heap.get?_push_size _ rfl, Nat.ne_of_gt F1.ns.lt, Heap.get?_none_of_le (Nat.le_trans F1.above (Nat.le_of_lt F1.ns.lt))⟩, List.forall_mem_cons.mpr ⟨⟨Heap.get?_push_of_some _ ho1, haL, ha0⟩, news_push N1 _⟩⟩) (Heap.lt_size ho1))
theorem sortedK1 {v f : Value} {kw : List (Str × Value)} {Q : Value → Shared → Prop} (F : Fr h₀ L s.heap m) (N : News h₀ L s.heap news) (hl : s.heap.IsList l #[v])
    (ha1 : argsOk "sorted" ⟨[.ref l], kw⟩) (ha2 : ∀ x, argsOk "list.sort" ⟨[.ref x], kw⟩) (ht : ∀ x, Builtin.«list.sort» ⟨[.ref x], kw⟩ = ksk_tree x f false)
    (h : ∀ D kS e1 h', Fr h₀ L h' m → News h₀ L h' ((kS, seqObj "list" #[] 0) :: (D, seqObj "list" #[] e1) :: news) → D < kS → (∀ q ∈ news, q.1 < D) →
      wpAny (model prog w) A.in1.in1 (call f [v]) (KatBack h₀ L m kS [] 0 (fun k c s' => KatFin h₀ L m kS D [k] c e1 [v] (fun s4 => Q (.ref D) s4) s')) (fun _ _ => False) { s with heap := h' }) :
    wpAny (model prog w) A (call (.builtin "sorted") [.ref l] kw) Q E s :=
  sorted_open (vs := [v]) F N hl (by simp) ha1 ha2 fun D _ _ FH NH hD d1 d2 d3 hP => by
    rw [ht]
    exact keyed1 FH NH hD d1 d2 (fun q hq => Nat.ne_of_lt (d3 q hq)) fun kS e1 h' F' N' l0 => wpAny_mono (h D kS e1 h' F' N' l0 d3) (fun _ _ ⟨n2, g, F2, N2, U, c⟩ => ⟨n2, g, F2, N2, U, fun h2 c2 F3 N3 => (c h2 c2 F3 N3).mono hP⟩) fun _ _ x => x
end
end Mine
end
section
open PySem PySem.W PySem.Calls PyProof.Rows
namespace Mine
noncomputable def shLen (s : Sh) : Int := 1 + (if 0 ≤ s.sib then 1 else 0) + s.wd
noncomputable def keyR (s : Sh) : Int := 2 * shLen s + (if needSh s = true then 1 else 0)
noncomputable def ltKey (a b : Sh) : Bool := decide (keyR a < keyR b)
noncomputable abbrev KeyObj (s : Sh) (t : Tok) (n : Nat) : Obj := tup [.int (shLen s) t, .bool (needSh s)] n
inductive KIn (news : List (Addr × Obj)) : Value → Sh → Prop
  | mk {D : Addr} {s : Sh} {t : Tok} {n : Nat} : (D, KeyObj s t n) ∈ news → KIn news (.ref D) s
inductive KAll (news : List (Addr × Obj)) : List Value → List Sh → Prop
  | nil : KAll news [] []
  | cons {v : Value} {vs : List Value} {s : Sh} {ss : List Sh} : KIn news v s → KAll news vs ss → KAll news (v :: vs) (s :: ss)
section
variable {news news' : List (Addr × Obj)} {vs ws : List Value} {ss zs : List Sh}
theorem KAll.mono (h : KAll news vs ss) (u : ∀ p ∈ news, p ∈ news') : KAll news' vs ss := by
  induction h with
  | nil => exact .nil
  | cons a _ ih => cases a with | mk a => exact .cons (.mk (u _ a)) ih
theorem KAll.append (h : KAll news vs ss) (k : KAll news ws zs) : KAll news (vs ++ ws) (ss ++ zs) := by
  induction h with
  | nil => exact k
  | cons a _ ih => exact .cons a ih
theorem KAll.length (h : KAll news vs ss) : vs.length = ss.length := by
  induction h with
  | nil => rfl
  | cons a _ ih => rw [List.length_cons, List.length_cons, ih]
theorem KAll.at (h : KAll news vs ss) (d : Sh) : ∀ i, i < ss.length → KIn news (vs.getD i .none) (ss.getD i d) := by
  induction h with
  | nil => intro i hi; simp at hi
  | cons a _ ih =>
    intro i hi
    cases i with
    | zero => exact a
    | succ i => exact ih i (by simpa using hi)
theorem ShAll.at {P : Params} (h : ShAll P news vs ss) (d : Sh) : ∀ i, i < ss.length → ShIn P news (vs.getD i .none) (ss.getD i d) := by
  induction h with
  | nil => intro i hi; simp at hi
  | cons a _ ih =>
    intro i hi
    cases i with
    | zero => exact a
    | succ i => exact ih i (by simpa using hi)
theorem ShAll.pick {P : Params} (h : ShAll P news vs ss) (d : Sh) : ∀ is : List Nat, (∀ i ∈ is, i < ss.length) → ShAll P news (is.map fun i => vs.getD i .none) (is.map fun i => ss.getD i d)
  | [], _ => .nil
  | i :: is, hi => .cons (h.at d i (hi i (.head _))) (ShAll.pick h d is fun j hj => hi j (.tail _ hj))
theorem KAll.tups {h₀ h : Heap} {L : Addr} (N : News h₀ L h news) (hA : KAll news vs ss) : ∃ fs, fs.length = vs.length ∧ KatTups h vs fs ∧ ∀ v ∈ fs, ∃ (x : Int) (t : Tok), v = .int x t := by
  induction hA with
  | nil => exact ⟨[], rfl, KatTups.nil, fun _ h => nomatch h⟩
  | cons a _ ih =>
    obtain ⟨fs, h1, h2, h3⟩ := ih
    cases a with
    | mk a =>
      refine ⟨_, ?_, KatTups.cons (N _ a).1 rfl rfl rfl h2, List.forall_mem_cons.mpr ⟨⟨_, _, rfl⟩, h3⟩⟩
      rw [List.length_cons, List.length_cons, h1]
end
section
variable {prog : Program} {w : World} {A : Around} {E : Value → Shared → Prop} {s : Shared} {h₀ : Heap} {L l : Addr} {m : Str → Option Value} {news : List (Addr × Obj)} {vs : List Value} {ss : List Sh}
theorem ask_K {b : Bool} {C : Bool → Shared → Prop} {x y : Value} {sx sy : Sh} (N : News h₀ L s.heap news) (hx : KIn news x sx) (hy : KIn news y sy) (h : C (ltKey sx sy) s) : wpAny (model prog w) A (keyLt' (tuples' b) x y) C E s := by
  cases hx with
  | mk hx =>
    cases hy with
    | mk hy =>
      refine kat_lt (N _ hx).1 rfl (N _ hy).1 rfl ?_
      refine lex_int (fun e => ?_) (fun e => ?_)
      · refine kat_cons (SeqAt.EqAt.bool_bool _ _ _ _ _ _ (kat_go (fun q => ?_) fun q => ?_))
        · refine kat_yes (kat_nil ?_)
          have q : needSh sx = needSh sy := by simpa using q
          have : ltKey sx sy = false := by unfold ltKey keyR; rw [e, q]; simp
          rw [this] at h; exact h
        · refine kat_no ?_
          have hb : (b && (0 + 1) == 0) = false := by simp
          rw [hb]
          refine kat_one _ _ (lt_bool ?_)
          have : ltKey sx sy = decide (b2i (needSh sx) < b2i (needSh sy)) := by
            unfold ltKey keyR; rw [e]
            cases needSh sx <;> cases needSh sy <;> simp [b2i] <;> omega
          rw [this] at h; exact h
      · have : ltKey sx sy = decide (shLen sx < shLen sy) := by
          unfold ltKey keyR
          rw [Bool.eq_iff_iff, decide_eq_true_eq, decide_eq_true_eq]
          split <;> split <;> omega
        rw [this] at h; exact h
theorem ltKey_ord {n : Nat} (hn : ss.length = n) (nd : (ss.map keyR).Nodup) : Ord n (fun i j => ltKey (ss.getD i sh0) (ss.getD j sh0)) := by
  subst hn
  refine ⟨fun i j hi hj hij h => ?_, fun i j k _ _ _ h k => ?_⟩
  · have e1 : ss.getD i sh0 = ss[i] := by simp [hi]
    have e2 : ss.getD j sh0 = ss[j] := by simp [hj]
    rw [e1, e2] at h ⊢
    have pw := List.pairwise_iff_getElem.mp nd
    have hne : keyR ss[i] ≠ keyR ss[j] := by
      rcases Nat.lt_or_gt_of_ne hij with c | c
      · have := pw i j (by simpa using hi) (by simpa using hj) c
        simpa using this
      · have := pw j i (by simpa using hj) (by simpa using hi) c
        intro q; apply this; simpa using q.symm
    unfold ltKey at h ⊢
    have h := of_decide_eq_false h
    exact decide_eq_true (by omega)
  · unfold ltKey at h k ⊢
    have h := of_decide_eq_true h
    have k := of_decide_eq_true k
    exact decide_eq_true (by omega)
noncomputable def KeyEnd (h₀ : Heap) (L : Addr) (m : Str → Option Value) (led : List (Addr × Obj)) (sh : Sh) (s : Shared) (v : Value) (s' : Shared) : Prop :=
  ∃ D h' tk t n, v = .ref D ∧ s' = { s with heap := h', toks := tk } ∧ Fr h₀ L h' m ∧ News h₀ L h' ((D, KeyObj sh t n) :: led)
noncomputable abbrev KeyTurn (prog : Program) (w : World) (A : Around) (h₀ : Heap) (L : Addr) (m : Str → Option Value) (news : List (Addr × Obj)) (f : Value) (ss : List Sh) (s : Shared) : Prop :=
  ∀ v sh led h tk, sh ∈ ss → ShIn w.params led v sh → (∀ p ∈ news, p ∈ led) → Fr h₀ L h m → News h₀ L h led → wpAny (model prog w) A (call f [v]) (KeyEnd h₀ L m led sh { s with heap := h, toks := tk }) (fun _ _ => False) { s with heap := h, toks := tk }
theorem keys_run {f : Value} {D kS : Addr} {e1 : Nat} (Fin : List Value → Nat → Shared → Prop) (hDk : D ≠ kS) (hN : ∀ q ∈ news, q.1 ≠ kS)
    (fin : ∀ (kv : List Value) (tl : List (Addr × Obj)) (e : Nat) (h : Heap) (tk : Nat), KAll tl kv ss → (∀ q ∈ tl, q.1 ≠ kS ∧ q.1 ≠ D) → Fr h₀ L h m → News h₀ L h ((kS, seqObj "list" (List.toArray kv) e) :: (D, seqObj "list" #[] e1) :: (tl ++ news)) → Fin kv e { s with heap := h, toks := tk }) :
    ∀ (r : List Value) (rs : List Sh) (kv : List Value) (kz : List Sh) (tl : List (Addr × Obj)) (e : Nat) (h : Heap) (tk : Nat), ShAll w.params news r rs → ss = kz ++ rs → KAll tl kv kz → (∀ q ∈ tl, q.1 ≠ kS ∧ q.1 ≠ D) → Fr h₀ L h m →
      News h₀ L h ((kS, seqObj "list" (List.toArray kv) e) :: (D, seqObj "list" #[] e1) :: (tl ++ news)) → KeyTurn prog w A h₀ L m news f ss s → KatKeys prog w A h₀ L m kS f Fin r kv e { s with heap := h, toks := tk }
  | [], _, kv, kz, tl, e, h, tk, .nil, hs, hk, ht, F, N, _ => by
    rw [List.append_nil] at hs
    subst hs
    exact KatKeys.nil (fin kv tl e h tk hk ht F N)
  | v :: r, _, kv, kz, tl, e, h, tk, .cons (s := sh) (ss := rs) hv hr, hs, hk, ht, F, N, turn => by
    have sub : ∀ p ∈ news, p ∈ (kS, seqObj "list" (List.toArray kv) e) :: (D, seqObj "list" #[] e1) :: (tl ++ news) := fun p hp => .tail _ (.tail _ (List.mem_append.mpr (.inr hp)))
    refine KatKeys.cons (wpAny_mono (turn v sh _ h tk (by rw [hs]; exact List.mem_append.mpr (.inr (.head _))) (hv.mono sub) sub F N) (fun k s' hk' => ?_) fun _ _ x => x)
    obtain ⟨T, h1, tk1, t, n, rfl, rfl, F1, N1⟩ := hk'
    have oT := (N1 _ (.head _)).1
    have oK := (N1 _ (.tail _ (.head _))).1
    have oD := (N1 _ (.tail _ (.tail _ (.head _)))).1
    have nK : T ≠ kS := fun q => by rw [q, oK] at oT; simp [KeyObj, tup, seqObj] at oT
    have nD : T ≠ D := fun q => by rw [q, oD] at oT; simp [KeyObj, tup, seqObj] at oT
    refine KatBack.intro F1 N1 (.tail nK (.head fun p hp => ?_)) fun h2 c F2 N2 => ?_
    · rcases List.mem_cons.mp hp with rfl | hp
      · exact hDk
      · rcases List.mem_append.mp hp with hp | hp
        · exact (ht p hp).1
        · exact hN p hp
    · refine keys_run Fin hDk hN fin r rs (kv ++ [.ref T]) (kz ++ [sh]) (tl ++ [(T, KeyObj sh t n)]) c h2 tk1 hr (by rw [hs, List.append_assoc]; rfl) ((hk.mono fun p hp => List.mem_append.mpr (.inl hp)).append (.cons (.mk (List.mem_append.mpr (.inr (.head _)))) .nil)) (fun q hq => ?_) F2 (fun p hp => N2 p ?_) turn
      · rcases List.mem_append.mp hq with hq | hq
        · exact ht q hq
        · rw [List.mem_singleton.mp hq]; exact ⟨nK, nD⟩
      · rcases List.mem_cons.mp hp with rfl | hp
        · exact .tail _ (.head _)
        · rcases List.mem_cons.mp hp with rfl | hp
          · exact .tail _ (.tail _ (.head _))
          · rcases List.mem_append.mp hp with hp | hp
            · rcases List.mem_append.mp hp with hp | hp
              · exact .tail _ (.tail _ (.tail _ (List.mem_append.mpr (.inl hp))))
              · rw [List.mem_singleton.mp hp]; exact .head _
            · exact .tail _ (.tail _ (.tail _ (List.mem_append.mpr (.inr hp))))
theorem key_end {led led' : List (Addr × Obj)} {sh : Sh} {h' : Heap} {D : Addr} {x : Int} {y : Bool} {t : Tok} {n tk : Nat} (F : Fr h₀ L h' m) (N : News h₀ L h' led') (hD : (D, tup [.int x t, .bool y] n) ∈ led') (hs : ∀ p ∈ led, p ∈ led') (ex : x = shLen sh) (ey : y = needSh sh) :
    KeyEnd h₀ L m led sh s (.ref D) { s with heap := h', toks := tk } := by
  subst ex; subst ey
  refine ⟨D, h', tk, t, n, rfl, rfl, F, fun p hp => ?_⟩
  rcases List.mem_cons.mp hp with rfl | hp
  · exact N _ hD
  · exact N p (hs p hp)
theorem sortedSh {part : List (Addr × Obj)} {f : Value} {kw : List (Str × Value)} {Q : Value → Shared → Prop} (F : Fr h₀ L s.heap m) (N : News h₀ L s.heap news) (hl : s.heap.IsList l vs.toArray) (hA0 : ShAll w.params part vs ss) (hp : ∀ p ∈ part, p ∈ news) (nd : (ss.map keyR).Nodup) (h1 : 1 ≤ ss.length) (h64 : ss.length < 64)
    (ha1 : argsOk "sorted" ⟨[.ref l], kw⟩) (ha2 : ∀ x, argsOk "list.sort" ⟨[.ref x], kw⟩) (ht : ∀ x, Builtin.«list.sort» ⟨[.ref x], kw⟩ = ksk_tree x f false)
    (turn : KeyTurn prog w A.in1.in1 h₀ L m news f ss s)
    (h : ∀ D h' tk c vs' ss', Fr h₀ L h' m → News h₀ L h' ((D, W.listOf vs'.toArray c) :: news) → (∀ q ∈ news, q.1 < D) → ShAll w.params part vs' ss' → ss'.Perm ss → ss'.Pairwise (fun a b => ltKey a b = true) → Q (.ref D) { s with heap := h', toks := tk }) :
    wpAny (model prog w) A (call (.builtin "sorted") [.ref l] kw) Q E s := by
  have hlen := hA0.length
  have hA := hA0.mono hp
  by_cases h2 : 2 ≤ vs.length
  · refine kat_sortedK F N hl h2 (by omega) ha1 ha2 ht fun D kS e1 h' F' N' lD l' => ?_
    have hDk : D ≠ kS := Nat.ne_of_lt lD
    have hN : ∀ q ∈ news, q.1 ≠ kS := fun q hq => Nat.ne_of_lt (Nat.lt_trans (l' q hq) lD)
    refine keys_run (s := s) (ss := ss) _ hDk hN (fun kv tl e h3 tk hk ht F3 N3 => ?_) vs ss [] [] [] 0 h' s.toks hA rfl .nil (fun _ h => nomatch h) F' N' turn
    have hkl := hk.length
    obtain ⟨fs, f1, f2, f3⟩ := hk.tups (h := h3) (fun p hp => N3 p (.tail _ (.tail _ (List.mem_append.mpr (.inl hp)))))
    refine kat_kind (T := .type "int") f2 (by omega) (fun v hv => ?_) rfl ?_
    · obtain ⟨x, t, rfl⟩ := f3 v hv
      exact Looks.of_pure rfl
    · refine Holds.wp (Inv := fun s' => s' = { s with heap := h3, toks := tk }) (P := fun p => Good vs.length p ∧ Inc (fun i j => ltKey (ss.getD i sh0) (ss.getD j sh0)) p vs.length) (fun i j C s' hi hj e hc => ?_) (fun p s' hp e => ?_) _ _ (holds_sort (ltKey_ord hlen.symm nd) h2) rfl
      · subst e
        unfold kas_ask katRev
        simp only [Bool.false_eq_true, if_false]
        exact ask_K (news := tl) (fun p hp => N3 p (.tail _ (.tail _ (List.mem_append.mpr (.inl hp))))) (hk.at sh0 i (by omega)) (hk.at sh0 j (by omega)) (hc _ rfl)
      · subst e
        unfold katRev
        simp only [Bool.false_eq_true, if_false]
        refine KatFin.intro F3 N3 (.head fun p hp => ?_) fun h4 c4 F4 N4 => ?_
        · rcases List.mem_cons.mp hp with rfl | hp
          · exact hDk
          · rcases List.mem_append.mp hp with hp | hp
            · exact (ht p hp).1
            · exact hN p hp
        · refine KasFin.intro F4 N4 (.tail (Ne.symm hDk) (.head fun p hp => ?_)) fun h5 c5 F5 N5 => ?_
          · rcases List.mem_append.mp hp with hp | hp
            · exact (ht p hp).2
            · exact Nat.ne_of_lt (l' p hp)
          · refine h D h5 _ c5 _ _ F5 (fun p hp => N5 p ?_) l' (hA0.pick sh0 p.toList fun i hi => by have := good_lt hp.1 i hi; omega) (pick_perm hp.1 hlen.symm) (pick_pw hp.1 hp.2 fun _ _ => rfl)
            rcases List.mem_cons.mp hp with rfl | hp
            · exact .tail _ (.head _)
            · exact .tail _ (.tail _ (List.mem_append.mpr (.inr hp)))
  · obtain ⟨v, rfl⟩ := List.length_eq_one_iff.mp (show vs.length = 1 by omega)
    obtain ⟨sh, rfl⟩ := List.length_eq_one_iff.mp (hlen.symm : ss.length = 1)
    refine sortedK1 F N hl ha1 ha2 ht fun D kS e1 h' F' N' lD l' => ?_
    have hDk : D ≠ kS := Nat.ne_of_lt lD
    have hN : ∀ q ∈ news, q.1 ≠ kS := fun q hq => Nat.ne_of_lt (Nat.lt_trans (l' q hq) lD)
    have hv := hA.at sh0 0 (by simp)
    have sub : ∀ p ∈ news, p ∈ (kS, seqObj "list" #[] 0) :: (D, seqObj "list" #[] e1) :: news := fun p hp => .tail _ (.tail _ hp)
    refine wpAny_mono (turn v sh _ h' s.toks (.head _) (hv.mono sub) sub F' N') (fun k s' hk' => ?_) fun _ _ x => x
    obtain ⟨T, h1, tk1, t, n, rfl, rfl, F1, N1⟩ := hk'
    have oT := (N1 _ (.head _)).1
    have oK := (N1 _ (.tail _ (.head _))).1
    have oD := (N1 _ (.tail _ (.tail _ (.head _)))).1
    have nK : T ≠ kS := fun q => by rw [q, oK] at oT; simp [KeyObj, tup, seqObj] at oT
    have nD : T ≠ D := fun q => by rw [q, oD] at oT; simp [KeyObj, tup, seqObj] at oT
    have u1 : ∀ p ∈ (D, seqObj "list" #[] e1) :: news, p.1 ≠ kS := fun p hp => by
      rcases List.mem_cons.mp hp with rfl | hp
      · exact hDk
      · exact hN p hp
    refine KatBack.intro F1 N1 (.tail nK (.head u1)) fun h3 c3 F3 N3 => ?_
    refine KatFin.intro F3 N3 (.tail nK (.head u1)) fun h4 c4 F4 N4 => ?_
    refine KasFin.intro F4 N4 (.tail nD (.tail (Ne.symm hDk) (.head fun p hp => Nat.ne_of_lt (l' p hp)))) fun h5 c5 F5 N5 => ?_
    refine h D h5 _ c5 [v] [sh] F5 (fun p hp => N5 p ?_) l' hA0 (List.Perm.refl _) (List.pairwise_singleton ..)
    rcases List.mem_cons.mp hp with rfl | hp
    · exact .tail _ (.tail _ (.head _))
    · exact .tail _ (.tail _ (.tail _ hp))
end
end Mine
end
section
open PySem PySem.W PyProof.Rows
namespace Mine
noncomputable def memSh (b i sc wo : Int) (named : Bool) : List Sh :=
  if b = 16 then [⟨0, 5, -1, 4, 0, 0⟩] else if b = -1 then [⟨0, 4, sibOf b i sc, 4, ext i, 0⟩] else basedSh b i sc wo named
theorem fm8' (a : Int) : 0 ≤ Int.fmod a 8 ∧ Int.fmod a 8 < 8 := @fm_lt a 8 (by decide)
theorem code_bd (b : Int) : 0 ≤ code b ∧ code b < 8 := by
  unfold code
  have := fm8' b
  split
  · omega
  · split <;> omega
theorem shiftOf_bd (z : Int) : 0 ≤ shiftOf z ∧ shiftOf z ≤ 3 := by unfold shiftOf; (repeat' split) <;> exact ⟨by decide, by decide⟩
theorem sib_bd {z a b : Int} (hz : 0 ≤ z ∧ z ≤ 3) (ha : 0 ≤ a ∧ a < 8) (hb : 0 ≤ b ∧ b < 8) : 0 ≤ z * 64 + a * 8 + b ∧ z * 64 + a * 8 + b < 256 := by omega
theorem sibOf_bd (b i sc : Int) : 0 ≤ sibOf b i sc ∧ sibOf b i sc < 256 := by
  unfold sibOf
  split
  · exact sib_bd ⟨by decide, by decide⟩ ⟨by decide, by decide⟩ (code_bd b)
  · exact sib_bd (shiftOf_bd sc) (code_bd i) (code_bd b)
theorem key_no {m c wd x y : Int} : keyR ⟨m, c, -1, wd, x, y⟩ = 2 + 2 * wd := by
  have h : needSh ⟨m, c, -1, wd, x, y⟩ = false := by
    unfold needSh
    dsimp only
    split
    · rfl
    · rfl
  unfold keyR shLen
  rw [h]
  dsimp only
  rw [if_neg (by decide), if_neg (by decide)]
  omega
theorem key_sib {m c sib wd x y : Int} (hs : 0 ≤ sib) : keyR ⟨m, c, sib, wd, x, y⟩ = 4 + 2 * wd + (if needSh ⟨m, c, sib, wd, x, y⟩ = true then 1 else 0) := by
  unfold keyR shLen
  dsimp only
  rw [if_pos hs]
  omega
theorem need_zero {b i sc : Int} (hb : 0 ≤ b ∧ b ≤ 15) (hn : needsSib b i = false) (hc : code b ≠ 5) : needSh ⟨0, 4, sibOf b i sc, 0, ext i, ext b⟩ = true := by
  obtain rfl : i = -1 := Decidable.not_not.mp (of_decide_eq_false (Bool.or_eq_false_iff.mp hn).1)
  rw [show sibOf b (-1) sc = 0 * 64 + 4 * 8 + code b from if_pos rfl]
  exact below (n := 16) (P := fun b => needsSib b (-1) = false → code b ≠ 5 → needSh ⟨0, 4, 0 * 64 + 4 * 8 + code b, 0, ext (-1), ext b⟩ = true) hb.1 (Int.lt_of_le_of_lt hb.2 (by decide)) (by decide +kernel) hn hc
noncomputable def kOne (nd e : Bool) (wd : Int) : List Int := (if nd = true then [] else [2 + 2 * wd]) ++ [4 + 2 * wd + (if e = true then 1 else 0)]
noncomputable def kAll (nd z f named e0 e1 e4 : Bool) : List Int := match named with
  | true => kOne nd e4 4
  | false => (if z = true then kOne nd e0 0 else []) ++ ((if f = true then kOne nd e1 1 else []) ++ kOne nd e4 4)
theorem kfin : ∀ nd z f named e0 e1 e4 : Bool, (nd = false → z = true → e0 = true) → (kAll nd z f named e0 e1 e4).Nodup ∧ 1 ≤ (kAll nd z f named e0 e1 e4).length ∧ (kAll nd z f named e0 e1 e4).length < 64 := by decide +kernel
theorem keys_one (b i sc wd : Int) : (shOne b i sc wd).map keyR = kOne (needsSib b i) (needSh ⟨modOf wd, 4, sibOf b i sc, wd, ext i, ext b⟩) wd := by
  unfold shOne kOne
  rw [List.map_append, List.map_cons, List.map_nil, key_sib (sibOf_bd b i sc).1]
  cases needsSib b i
  · exact congrArg (· ++ _) (congrArg (· :: []) key_no)
  · rfl
theorem map_if {p : Prop} [Decidable p] {a : Int} {g : Int → List Sh} : ((if p then [a] else []).flatMap g).map keyR = if decide p = true then (g a).map keyR else [] := by
  by_cases h : p
  · rw [if_pos h, if_pos (decide_eq_true h), List.flatMap_cons, List.flatMap_nil, List.append_nil]
  · rw [if_neg h, if_neg (by rw [decide_eq_false h]; decide)]; rfl
theorem keys_all (b i sc wo : Int) (named : Bool) : (basedSh b i sc wo named).map keyR = kAll (needsSib b i) (decide (wo = 0 ∧ code b ≠ 5)) (decide (-128 ≤ wo ∧ wo < 128)) named (needSh ⟨modOf 0, 4, sibOf b i sc, 0, ext i, ext b⟩) (needSh ⟨modOf 1, 4, sibOf b i sc, 1, ext i, ext b⟩) (needSh ⟨modOf 4, 4, sibOf b i sc, 4, ext i, ext b⟩) := by
  unfold basedSh kAll
  rw [← keys_one, ← keys_one, ← keys_one]
  cases named
  · unfold widths
    dsimp only
    rw [List.flatMap_append, List.flatMap_append, List.map_append, List.map_append, map_if, map_if, List.flatMap_cons, List.flatMap_nil, List.append_nil]
  · unfold widths
    rw [List.flatMap_cons, List.flatMap_nil, List.append_nil]
theorem based_keys {b i sc wo : Int} {named : Bool} (hb : 0 ≤ b ∧ b ≤ 15) : ((basedSh b i sc wo named).map keyR).Nodup ∧ 1 ≤ (basedSh b i sc wo named).length ∧ (basedSh b i sc wo named).length < 64 := by
  rw [← List.length_map keyR, keys_all]
  exact kfin _ _ _ _ _ _ _ fun h z => need_zero hb h (of_decide_eq_true z).2
noncomputable abbrev RMS (P : Params) (b i sc wo : Int) (named : Bool) : Value → List (Addr × Obj) → Prop := fun v add => ∃ ss, RSh P ss v add ∧ ss.Perm (memSh b i sc wo named) ∧ ss.Pairwise (fun a b => ltKey a b = true)
theorem PlOk.all {b i sc : Int} (h : PlOk b i sc) : (b = 16 → i = -1) ∧ i ≠ 16 ∧ i ≠ 4 ∧ (sc = 1 ∨ i ≠ -1 ∧ (sc = 2 ∨ sc = 4 ∨ sc = 8)) ∧ (sc = 1 ∨ sc = 2 ∨ sc = 4 ∨ sc = 8) := by
  obtain ⟨-, -, ⟨rfl, rfl⟩ | ⟨hb, h0, h15, h4, hs⟩⟩ := h
  · exact ⟨fun _ => rfl, by decide, by decide, .inl rfl, .inl rfl⟩
  · exact ⟨fun e => absurd e hb, fun e => absurd (e ▸ h15 : (16 : Int) ≤ 15) (by decide), h4, hs.imp id fun h => ⟨fun e => absurd (e ▸ h0 : (0 : Int) ≤ -1) (by decide), h⟩, hs⟩
end Mine
namespace Mine
theorem memSh_pos {b i sc wo : Int} {named : Bool} (h : PlOk b i sc) : 1 ≤ (memSh b i sc wo named).length := by
  unfold memSh
  split
  · exact Nat.le_refl _
  · split
    · exact Nat.le_refl _
    · exact (based_keys (by unfold PlOk at h; omega)).2.1
theorem memSh_lt {b i sc wo : Int} {named : Bool} (h : PlOk b i sc) : (memSh b i sc wo named).length < 64 := by
  unfold memSh
  split
  · simp
  · split
    · simp
    · exact (based_keys (by unfold PlOk at h; omega)).2.2
theorem first_of {P : Params} {tl : List (Addr × Obj)} {vs : Array Value} {ss ms : List Sh} (h : ShAll P tl vs.toList ss) (pm : ss.Perm ms) (hl : 1 ≤ ms.length) : ∃ v r s sr, vs = (v :: r).toArray ∧ ss = s :: sr ∧ ShIn P tl v s := by
  have e := pm.length_eq
  obtain ⟨vs⟩ := vs
  cases h with
  | nil => simp at e; omega
  | cons a b => exact ⟨_, _, _, _, rfl, rfl, a⟩
noncomputable abbrev RLS (P : Params) (b i sc wo : Int) (named : Bool) : Value → List (Addr × Obj) → Prop := fun v add => ∃ s ss, (s :: ss).Perm (memSh b i sc wo named) ∧ (s :: ss).Pairwise (fun a b => ltKey a b = true) ∧ ShIn P add v s
end Mine
end
section
open PySem PySem.W PySem.Calls PyProof.Rows
namespace Mine
section
variable {d : Addr} {o : Obj} {l : List (Addr × Obj)} {g : Obj → List (Addr × Obj)}
theorem upd_same (U : UpdF d o l g) : g o = l := by
  obtain ⟨a, b, e, h, _, _⟩ := U.split
  rw [h, e]
theorem upd_mem (U : UpdF d o l g) : (d, o) ∈ l := by
  obtain ⟨a, b, e, h, _, _⟩ := U.split
  rw [e]; exact List.mem_append.mpr (.inr (.head _))
theorem upd_memg (U : UpdF d o l g) (o' : Obj) : (d, o') ∈ g o' := by
  obtain ⟨a, b, e, h, _, _⟩ := U.split
  rw [h]; exact List.mem_append.mpr (.inr (.head _))
theorem upd_keep (U : UpdF d o l g) (o' : Obj) {p : Addr × Obj} (hp : p ∈ l) (hn : p.1 ≠ d) : p ∈ g o' := by
  obtain ⟨a, b, e, h, _, _⟩ := U.split
  rw [e] at hp
  rw [h]
  rcases List.mem_append.mp hp with hp | hp
  · exact List.mem_append.mpr (.inl hp)
  · rcases List.mem_cons.mp hp with rfl | hp
    · exact absurd rfl hn
    · exact List.mem_append.mpr (.inr (.tail _ hp))
theorem upd_back (U : UpdF d o l g) {o' : Obj} {p : Addr × Obj} (hp : p ∈ g o') : p = (d, o') ∨ p ∈ l := by
  obtain ⟨a, b, e, h, _, _⟩ := U.split
  rw [h] at hp
  rw [e]
  rcases List.mem_append.mp hp with hp | hp
  · exact .inr (List.mem_append.mpr (.inl hp))
  · rcases List.mem_cons.mp hp with rfl | hp
    · exact .inl rfl
    · exact .inr (List.mem_append.mpr (.inr (.tail _ hp)))
theorem upd_again {o' : Obj} (U : UpdF d o l g) : UpdF d o' (g o') g := by
  induction U with
  | head h => exact .head h
  | tail h _ ih => exact .tail h ih
theorem upd_app (U : UpdF d o l g) : ∀ {a : List (Addr × Obj)}, (∀ p ∈ a, p.1 ≠ d) → UpdF d o (a ++ l) (fun o' => a ++ g o')
  | [], _ => U
  | p :: a, h => .tail (h p (.head _)) (upd_app U fun q hq => h q (.tail _ hq))
theorem upd_ne (U : UpdF d o l g) {o' : Obj} {p : Addr × Obj} (hp : p ∈ l) (hc : p.2 ≠ o) : p.1 ≠ d := by
  obtain ⟨a, b, e, _, h1, h2⟩ := U.split
  rw [e] at hp
  rcases List.mem_append.mp hp with hp | hp
  · exact h1 p hp
  · rcases List.mem_cons.mp hp with rfl | hp
    · exact absurd rfl hc
    · exact h2 p hp
end
inductive TabOk (qual : Str) (pos : Pos) : Array Value → List (Addr × Obj) → Prop
  | fresh {news : List (Addr × Obj)} : TabOk qual pos #[] news
  | hit {c : Addr} {oc : Obj} {vs : Array Value} {t : Tok} {news : List (Addr × Obj)} : (c, oc) ∈ news → oc.data = .fields vs → vs[1]? = some (.str qual t) → TabOk qual pos #[rawInt pos.line, rawInt pos.col, .ref c] news
theorem codeAmong_one (pos : Pos) (c : Value) : codeAmong pos [rawInt pos.line, rawInt pos.col, c] = some c := by simp [codeAmong, rawInt]
theorem lam_make {M : Model} {A : Around} {E : Value → Shared → Prop} {s : Shared} {h₀ : Heap} {L a c P : Addr} {m mg mb : Str → Option Value} {cn : Str} {cs : Scope} {ccd : Value} {cl : List (Str × Addr)} {led : List (Addr × Obj)} {g : Obj → List (Addr × Obj)}
    {p : Program} {loose : List Str} {mean : ExcName → Option Value} {name qual : Str} {params : Arguments} {body : Expr} {scope : Scope} {ps : Array Value} {pos : Pos} {firstLine : Nat} {clos : List (Str × Addr)} {Q : Value → Shared → Prop}
    (F : Fr h₀ L s.heap m) (N : News h₀ L s.heap led) (T : Top p loose mean mg mb h₀) (C : CodeHd h₀ c P) (hcd : ccd = .ref c) (U : UpdF P (tabObj ps) led g) (tab : TabOk qual pos ps led) (hcl : closureFor scope (envX cn cs L a ccd cl) = pure clos)
    (h : ∀ f c' oc vs t ctv ps' h' tk add, Fr h₀ L h' m → News h₀ L h' ((f, kla_obj name qual params body scope clos ((mg "__name__").getD .none) c' ctv) :: (add ++ g (tabObj ps'))) → (c', oc) ∈ add ++ g (tabObj ps') → oc.data = .fields vs → vs[1]? = some (.str qual t) →
      TabOk qual pos ps' (add ++ g (tabObj ps')) → (∀ q ∈ led, ∀ p ∈ add, q.1 < p.1) → (∀ q ∈ led, q.1 < f) → Q (.ref f) { s with heap := h', toks := tk }) :
    wpAny M A (makeFunction name qual params (.expr body) scope (envX cn cs L a ccd cl) [] [] [] pos firstLine) Q E s := by
  cases tab with
  | fresh =>
    refine kla_nest F N T C hcd U (by exact True.intro) rfl hcl fun f c' oc vs t ctv h' tk F' N' hd hv l1 l2 => ?_
    refine h f c' oc vs t ctv _ h' tk [(c', oc)] F' N' (.head _) hd hv (.hit (.head _) hd hv) (fun q hq p hp => ?_) fun q hq => Nat.lt_trans (l1 q hq) l2
    rw [List.mem_singleton.mp hp]; exact l1 q hq
  | @hit c' oc vs t _ hm hd hv =>
    refine kla_hit F N T C hcd (upd_mem U) (by simp [TriplesOk, rawInt]) (codeAmong_one pos _) hcl fun f ctv h' tk F' N' l1 => ?_
    have e := upd_same U
    refine h f c' oc vs t ctv _ h' tk [] F' (fun p hp => N' p (by rw [List.nil_append, e] at hp; exact hp)) (by rw [List.nil_append, e]; exact hm) hd hv (.hit (by rw [List.nil_append, e]; exact hm) hd hv) (fun _ _ _ h => nomatch h) l1
noncomputable def lamQ : Str := Str.ofString "memory_shapes.<locals>.<lambda>"
noncomputable abbrev BackT (qual : Str) (pos : Pos) (g : Obj → List (Addr × Obj)) (h₀ : Heap) (L : Addr) (m : Str → Option Value) (news : List (Addr × Obj)) (s : Shared) (Q : Value → Shared → Prop) (R : Value → List (Addr × Obj) → Prop) : Prop :=
  ∀ (v : Value) (add : List (Addr × Obj)) (h' : Heap) (tk' : Nat) (ps' : Array Value), R v add → TabOk qual pos ps' (add ++ g (tabObj ps')) → Fr h₀ L h' m → News h₀ L h' (add ++ g (tabObj ps')) → (∀ q ∈ news, ∀ p ∈ add, q.1 < p.1) → Q v { s with heap := h', toks := tk' }
noncomputable def Cllt (K : Params → Frag) (V : Program) (TL : List Str) (w : World) (d u : Nat) (qual : Str) (pos : Pos) (f : Addr) (vs : List Value) (G : Heap → Prop) (news : List (Addr × Obj)) (R : Value → List (Addr × Obj) → Prop) : Prop :=
  ∀ (mean : ExcName → Option Value) (mg mb : Str → Option Value) (dp un : Nat) (gd : Option (List Code)) (cn : Str) (cs : Scope) (a : Addr) (ccd : Value) (cl : List (Str × Addr)) (outer : List Env) (A₀ : Around) (base h₀ : Heap) (L : Addr) (m : Str → Option Value) (s : Shared) (Q E : Value → Shared → Prop) (ps : Array Value) (g : Obj → List (Addr × Obj)),
    Below A₀ base outer h₀ → Fr h₀ L s.heap m → (K w.params).In h₀ → News h₀ L s.heap news → UpdF 422 (tabObj ps) news g → TabOk qual pos ps news → Top V TL mean mg mb h₀ → G base → cs.kind = .function →
    dp + d < recursionLimit → un + u < cLine → BackT qual pos g h₀ L m news s Q R →
    wpAny (model PySem.Challenge.rw_pb0421_01.row.prog w) (ktrTop dp un gd cn cs L a ccd cl outer) (call (.ref f) vs) Q E s
theorem cllt_use {K : Params → Frag} {V : Program} {TL : List Str} {w : World} {d u : Nat} {qual : Str} {pos : Pos} {f : Addr} {vs : List Value} {G : Heap → Prop} {news : List (Addr × Obj)} {R : Value → List (Addr × Obj) → Prop} (C : Cllt K V TL w d u qual pos f vs G news R)
    {mean : ExcName → Option Value} {mg mb : Str → Option Value} {dp un : Nat} {gd : Option (List Code)} {cn : Str} {cs : Scope} {a : Addr} {ccd : Value} {cl : List (Str × Addr)} {outer : List Env} {A₀ : Around} {base h₀ : Heap} {L : Addr} {m : Str → Option Value} {s : Shared} {Q E : Value → Shared → Prop} {ps : Array Value} {g : Obj → List (Addr × Obj)}
    (B : Below A₀ base outer h₀) (F : Fr h₀ L s.heap m) (X : (K w.params).In h₀) (N : News h₀ L s.heap news) (U : UpdF 422 (tabObj ps) news g) (tab : TabOk qual pos ps news) (T : Top V TL mean mg mb h₀) (hg : G base) (hk : cs.kind = .function)
    (hd : dp + d < recursionLimit) (hu : un + u < cLine) (ret : BackT qual pos g h₀ L m news s Q R) :
    wpAny (model PySem.Challenge.rw_pb0421_01.row.prog w) (ktrTop dp un gd cn cs L a ccd cl outer) (call (.ref f) vs) Q E s :=
  C mean mg mb dp un gd cn cs a ccd cl outer A₀ base h₀ L m s Q E ps g B F X N U tab T hg hk hd hu ret
end Mine
namespace Mine
noncomputable def lamP : Pos := { line := 237, col := 29, endLine := 237, endCol := 84 }
end Mine
namespace Mine
theorem TabOk.cast {q q' : Str} {pos pos' : Pos} {ps : Array Value} {news news' : List (Addr × Obj)} (e : q = q') (ep : pos = pos') (h : TabOk q pos ps news) (u : ∀ p ∈ news, p ∈ news') : TabOk q' pos' ps news' := by
  subst e; subst ep
  cases h with
  | fresh => exact .fresh
  | hit a b c => exact .hit (u _ a) b c
section
variable {h₀ h' : Heap} {L : Addr} {m : Str → Option Value} {news led : List (Addr × Obj)} {s : Shared} {Q : Value → Shared → Prop} {R : Value → List (Addr × Obj) → Prop} {v : Value} {tk : Nat} {q : Str} {pos : Pos} {ps ps' : Array Value} {g : Obj → List (Addr × Obj)}
theorem back_same (add : List (Addr × Obj)) (U : UpdF 422 (tabObj ps) news g) (tab : TabOk q pos ps news) (hret : BackT q pos g h₀ L m news s Q R) (hR : R v add) (F : Fr h₀ L h' m) (N : News h₀ L h' led) (ha : ∀ p ∈ add, p ∈ led) (hs : ∀ p ∈ news, p ∈ led) (ho : ∀ q ∈ news, ∀ p ∈ add, q.1 < p.1) : Q v { s with heap := h', toks := tk } := by
  have e := upd_same U
  refine hret v add h' tk ps hR ?_ F (fun p hp => N p ?_) ho
  · rw [e]; exact tab.cast rfl rfl fun p hp => List.mem_append.mpr (.inr hp)
  · rw [e] at hp; exact (List.mem_append.mp hp).elim (ha p) (hs p)
end
theorem lt_three {news : List (Addr × Obj)} {l D C : Addr} {o1 o2 o3 : Obj} (h1 : AllLt l news) (h2 : AllLt D news) (h3 : AllLt C news) : ∀ q ∈ news, ∀ p ∈ [(l, o1), (C, o2), (D, o3)], q.1 < p.1 := fun q hq p hp => by
  rcases List.mem_cons.mp hp with rfl | hp
  · exact ktn_ltOf h1 q hq
  · exact lt_both h2 h3 q hq p hp
theorem pw_one {a : Sh} {r : Sh → Sh → Prop} : [a].Pairwise r := List.pairwise_singleton ..
end Mine
namespace Mine
section
variable {h₀ h' : Heap} {L : Addr} {m : Str → Option Value} {news led ad tl G : List (Addr × Obj)} {s : Shared} {Q : Value → Shared → Prop} {v : Value} {tk n : Nat} {q : Str} {pos : Pos} {ps ps' : Array Value} {g : Obj → List (Addr × Obj)} {f x D : Addr} {fo xo : Obj}
theorem regroup (N : News h₀ L h' ((f, fo) :: (ad ++ (((x, xo) :: tl) ++ G)))) : ∃ R, News h₀ L h' ((f, fo) :: (x, xo) :: R) ∧ (∀ p ∈ ad ++ (((x, xo) :: tl) ++ G), p ∈ (f, fo) :: (x, xo) :: R) ∧ (∀ p ∈ tl, p ∈ R) := by
  have e : ∀ p, p ∈ ad ++ (((x, xo) :: tl) ++ G) ↔ p ∈ (x, xo) :: (ad ++ (tl ++ G)) := fun p => by
    simp only [List.mem_append, List.mem_cons, List.cons_append]
    constructor
    · rintro (h | h | h | h)
      · exact .inr (.inl h)
      · exact .inl h
      · exact .inr (.inr (.inl h))
      · exact .inr (.inr (.inr h))
    · rintro (h | h | h | h)
      · exact .inr (.inl h)
      · exact .inl h
      · exact .inr (.inr (.inl h))
      · exact .inr (.inr (.inr h))
  refine ⟨ad ++ (tl ++ G), fun p hp => N p ?_, fun p hp => .tail _ ((e p).mp hp), fun p hp => List.mem_append.mpr (.inr (List.mem_append.mpr (.inl hp)))⟩
  rcases List.mem_cons.mp hp with rfl | hp
  · exact .head _
  · exact .tail _ ((e p).mpr hp)
theorem back_grow {R : Value → List (Addr × Obj) → Prop} (o : Obj) (U : UpdF 422 (tabObj ps) news g) (hret : BackT q pos g h₀ L m news s Q R) (F : Fr h₀ L h' m) (N : News h₀ L h' ((D, o) :: led)) (hled : ∀ p ∈ ad ++ (((x, xo) :: tl) ++ g (tabObj ps')), p ∈ led)
    (tab : TabOk q pos ps' (ad ++ (((x, xo) :: tl) ++ g (tabObj ps')))) (lo : ∀ q ∈ ((x, xo) :: tl) ++ news, ∀ p ∈ ad, q.1 < p.1) (l9 : ∀ q ∈ news, ∀ p ∈ (x, xo) :: tl, q.1 < p.1) (lD : ∀ q ∈ led, q.1 < D) (hR : R v ((D, o) :: (ad ++ ((x, xo) :: tl)))) :
    Q v { s with heap := h', toks := tk } := by
  refine hret v _ h' tk ps' hR (tab.cast rfl rfl fun p hp => ?_) F (fun p hp => N p ?_) fun y hy p hp => ?_
  · rw [← List.append_assoc] at hp; exact .tail _ hp
  · rw [List.cons_append] at hp
    rcases List.mem_cons.mp hp with rfl | hp
    · exact .head _
    · rw [List.append_assoc] at hp; exact .tail _ (hled p hp)
  · rcases List.mem_cons.mp hp with rfl | hp
    · by_cases e : y.1 = 422
      · have := lD _ (hled _ (List.mem_append.mpr (.inr (List.mem_append.mpr (.inr (upd_memg U (tabObj ps')))))))
        rw [e]; exact this
      · exact lD y (hled y (List.mem_append.mpr (.inr (List.mem_append.mpr (.inr (upd_keep U _ hy e))))))
    · rcases List.mem_append.mp hp with hp | hp
      · exact lo y (List.mem_append.mpr (.inr hy)) p hp
      · exact l9 y hy p hp
end
end Mine
end
section
open PySem PySem.W PyProof.Rows
namespace Mine
noncomputable abbrev tup8 (b i sc wo sz : Int) (sg nm : Str) (t1 t2 t3 t4 t5 t6 t7 t8 : Tok) (n : Nat) : Obj :=
  tup [.str (Str.ofString "mem") t1, .str (wname b) t2, .str (wname i) t3, .int sc t4, .int wo t5, .int sz t6, .str sg t7, .str nm t8] n
noncomputable abbrev RT8 (b i sc wo sz : Int) (sg nm : Str) : Value → List (Addr × Obj) → Prop := fun v add => ∃ D t1 t2 t3 t4 t5 t6 t7 t8 n, v = .ref D ∧ add = [(D, tup8 b i sc wo sz sg nm t1 t2 t3 t4 t5 t6 t7 t8 n)]
theorem back_t8 {h₀ h' : Heap} {L : Addr} {m : Str → Option Value} {news led : List (Addr × Obj)} {s : Shared} {Q : Value → Shared → Prop} {tk : Nat} {b i sc wo sz : Int} {m0 s1 s2 sg nm : Str} {t1 t2 t3 t4 t5 t6 t7 t8 : Tok} {n : Nat} {D : Addr}
    (hret : Back h₀ L m news s Q (RT8 b i sc wo sz sg nm)) (F : Fr h₀ L h' m) (N : News h₀ L h' led) (hm : (D, tup [.str m0 t1, .str s1 t2, .str s2 t3, .int sc t4, .int wo t5, .int sz t6, .str sg t7, .str nm t8] n) ∈ led) (hs : ∀ p ∈ news, p ∈ led) (hl : AllLt D news)
    (e0 : m0 = Str.ofString "mem") (e1 : s1 = wname b) (e2 : s2 = wname i) : Q (.ref D) { s with heap := h', toks := tk } := by
  subst e0; subst e1; subst e2
  exact back_add [(D, _)] hret ⟨D, t1, t2, t3, t4, t5, t6, t7, t8, n, rfl, rfl⟩ F N (fun p hp => by rw [List.mem_singleton.mp hp]; exact hm) hs (lt_one hl)
theorem RegIn.named {P : Params} {news : List (Addr × Obj)} {v : Value} {b : Int} (h : RegIn P news v b) : (b = -1 ∧ v = .none) ∨
    ∃ r dr kd nn k1 k2 k3 k4 t1 t2 t3 t4 n, v = .ref r ∧ (r, instObj 255 dr) ∈ news ∧ (dr, regDict P (wname b) kd nn k1 k2 k3 k4 t1 t2 t3 t4 n) ∈ news := by
  cases h with
  | none => exact .inl ⟨rfl, rfl⟩
  | rip a c => exact .inr ⟨_, _, _, _, _, _, _, _, _, _, _, _, _, rfl, a, c⟩
  | gpr b x y a c =>
    have e : wname b = gname b := by unfold wname; rw [if_neg (by omega), if_neg (by omega)]
    rw [e]
    exact .inr ⟨_, _, _, _, _, _, _, _, _, _, _, _, _, rfl, a, c⟩
end Mine
namespace Mine
theorem mean_bd {mod rm sib x b : Int} (hrm : 0 ≤ rm ∧ rm ≤ 7) (hx : x = 0 ∨ x = 1) (hb : b = 0 ∨ b = 1) :
    (-1 ≤ (meaning mod rm sib x b).1 ∧ (meaning mod rm sib x b).1 ≤ 16) ∧ (-1 ≤ (meaning mod rm sib x b).2.1 ∧ (meaning mod rm sib x b).2.1 ≤ 16) := by
  have h1 := @fm_lt (Int.fdiv sib 8) 8 (by decide)
  have h2 := @fm_lt sib 8 (by decide)
  unfold meaning
  (repeat' split) <;> dsimp only <;> constructor <;> first | decide | exact wide (rng8 h1 hx) | exact wide (rng8 h2 hb) | exact wide (rng7 hrm hb)
theorem mean_bd1 {mod rm sib x b : Int} (hrm : 0 ≤ rm ∧ rm ≤ 7) (hx : x = 0 ∨ x = 1) (hb : b = 0 ∨ b = 1) : -1 ≤ (meaning mod rm sib x b).1 ∧ (meaning mod rm sib x b).1 ≤ 16 := (mean_bd hrm hx hb).1
theorem mean_bd2 {mod rm sib x b : Int} (hrm : 0 ≤ rm ∧ rm ≤ 7) (hx : x = 0 ∨ x = 1) (hb : b = 0 ∨ b = 1) : -1 ≤ (meaning mod rm sib x b).2.1 ∧ (meaning mod rm sib x b).2.1 ≤ 16 := (mean_bd hrm hx hb).2
theorem bd4 : (0 : Int) ≤ 4 ∧ (4 : Int) ≤ 7 := by decide
end Mine
namespace Mine
theorem ShIn.mk6 {P : Params} {news : List (Addr × Obj)} {x dx : Addr} {q1 q2 q3 q4 q5 q6 : Int} {k1 k2 k3 k4 k5 k6 t1 t2 t3 t4 t5 t6 : Tok} {n : Nat} (h1 : (x, instObj 367 dx) ∈ news) (h2 : (dx, shDict6 P q1 q2 q3 q4 q5 q6 k1 k2 k3 k4 k5 k6 t1 t2 t3 t4 t5 t6 n) ∈ news) :
    ShIn P news (.ref x) ⟨q1, q2, q3, q4, q5, q6⟩ := .mk (s := ⟨q1, q2, q3, q4, q5, q6⟩) h1 h2
end Mine
end
section
open PySem PySem.W PySem.Calls PyProof.Rows PyProof.V PySem.Spec
namespace Mine
section
variable {prog : Program} {w : World} {A : Around} {E : Value → Shared → Prop} {s : Shared} {h₀ : Heap} {L : Addr} {news : List (Addr × Obj)} {a b : Value} {d : Dat} {Q : Value → Shared → Prop}
theorem same_eqv {d : Dat} (ok : kqdOk 9 d = true) : PyData.eqv (kqdP d) (kqdP d) = true := (kqd_eqv 9 d d 9 ok ok).mpr rfl
theorem same_shaped {d : Dat} (ok : kqdOk 9 d = true) : SeqAt.shaped (kqdP d) = true := by
  have l := kqd_lay 9 d ok
  unfold SeqAt.shaped
  rw [l.1, Bool.true_and]
  exact decide_eq_true (Nat.le_trans l.2 (by decide))
theorem same_ne (N : News h₀ L s.heap news) (Da : DatIn news a d) (Db : DatIn news b d) (ok : kqdOk 9 d = true) (hu : A.units + 64 < cLine) (h : Q (.bool false) s) : wpAny (model prog w) A (compareOp .NotEq a b) Q E s := by
  obtain ⟨as, ra⟩ := kqd_in N 9 Da ok
  obtain ⟨bs, rb⟩ := kqd_in N 9 Db ok
  exact ne_dataH ra rb (same_shaped ok) (same_shaped ok) hu (by rw [same_eqv ok]; exact h)
theorem same_eq (N : News h₀ L s.heap news) (Da : DatIn news a d) (Db : DatIn news b d) (ok : kqdOk 9 d = true) (hu : A.units + 64 < cLine) (h : Q (.bool true) s) : wpAny (model prog w) A (compareOp .Eq a b) Q E s := by
  obtain ⟨as, ra⟩ := kqd_in N 9 Da ok
  obtain ⟨bs, rb⟩ := kqd_in N 9 Db ok
  exact eq_dataH ra rb (same_shaped ok) (same_shaped ok) hu (by rw [same_eqv ok]; exact h)
end
theorem gname_ok (b : Int) : PyData.strOk (gname b) = true := by
  unfold gname
  generalize b.toNat = k
  match k with
  | 0 | 1 | 2 | 3 | 4 | 5 | 6 | 7 | 8 | 9 | 10 | 11 | 12 | 13 | 14 | 15 => decide +kernel
  | k + 16 => rw [List.getD_eq_getElem?_getD, List.getElem?_eq_none (by simp)]; decide +kernel
theorem wname_ok (b : Int) : PyData.strOk (wname b) = true := by
  unfold wname
  split
  · decide +kernel
  · split
    · decide +kernel
    · exact gname_ok b
noncomputable abbrev dat8 (b i sc wo sz : Int) (sg nm : Str) : Dat := .tuple [.str (Str.ofString "mem"), .str (wname b), .str (wname i), .int sc, .int wo, .int sz, .str sg, .str nm]
theorem dat8_ok {b i sc wo sz : Int} {sg nm : Str} (h1 : PyData.strOk sg = true) (h2 : PyData.strOk nm = true) : kqdOk 9 (dat8 b i sc wo sz sg nm) = true := by
  have h0 : PyData.strOk (Str.ofString "mem") = true := by decide +kernel
  simp [kqdOk, h0, h1, h2, wname_ok]
theorem dat8_in {news : List (Addr × Obj)} {D : Addr} {b i sc wo sz : Int} {m0 s1 s2 sg nm : Str} {t1 t2 t3 t4 t5 t6 t7 t8 : Tok} {n : Nat} (h : (D, tup [.str m0 t1, .str s1 t2, .str s2 t3, .int sc t4, .int wo t5, .int sz t6, .str sg t7, .str nm t8] n) ∈ news)
    (e0 : m0 = Str.ofString "mem") (e1 : s1 = wname b) (e2 : s2 = wname i) : DatIn news (.ref D) (dat8 b i sc wo sz sg nm) := by
  subst e0; subst e1; subst e2
  exact .tuple h (.cons (.str _ _) (.cons (.str _ _) (.cons (.str _ _) (.cons (.int _ _) (.cons (.int _ _) (.cons (.int _ _) (.cons (.str _ _) (.cons (.str _ _) .nil))))))))
noncomputable abbrev dat6 (s : Sh) : Dat := .tuple [.int s.mod, .int s.rm, .int s.sib, .int s.wd, .int s.x, .int s.b]
theorem FIn.dat {news : List (Addr × Obj)} {v : Value} {s : Sh} (h : FIn news v s) : DatIn news v (dat6 s) := by
  cases h with
  | mk h => exact .tuple h (.cons (.int _ _) (.cons (.int _ _) (.cons (.int _ _) (.cons (.int _ _) (.cons (.int _ _) (.cons (.int _ _) .nil))))))
theorem FAll.dat {news : List (Addr × Obj)} {vs : List Value} {ss : List Sh} (h : FAll news vs ss) : DatAll news vs (ss.map dat6) := by
  induction h with
  | nil => exact .nil
  | cons a _ ih => exact .cons a.dat ih
theorem dat6_ok (n : Nat) (s : Sh) : kqdOk (n + 1) (dat6 s) = true := by simp [kqdOk]
theorem dat6s_ok (ss : List Sh) : kqdOk 9 (.list (ss.map dat6)) = true := by
  simp only [kqdOk, List.all_map, List.all_eq_true]
  intro s _
  exact dat6_ok 7 s
theorem ints_dat {news : List (Addr × Obj)} {vs : List Value} {ns : List Int} (h : IntsAre vs ns) : DatAll news vs (ns.map Dat.int) := by
  induction h with
  | nil => exact .nil
  | cons n t _ ih => exact .cons (.int _ _) ih
theorem ints_ok (ns : List Int) : kqdOk 9 (.list (ns.map Dat.int)) = true := by
  simp only [kqdOk, List.all_map, List.all_eq_true]
  intro s _
  simp [kqdOk]
theorem odd_law {mod rm sib wd x b : Int} (hm : 0 ≤ mod ∧ mod ≤ 2) (hx : x = 0 ∨ x = 1) (hs : rm = 4 ∧ 0 ≤ sib ∧ sib < 256 ∨ rm ≠ 4 ∧ sib = -1) :
    needSh ⟨mod, rm, sib, wd, x, b⟩ = (decide (x = 0) && (decide ((meaning mod rm sib x b).2.1 < 0) && needless mod rm sib b)) := by
  rcases hs with ⟨rfl, h0, h1⟩ | ⟨h4, rfl⟩
  · have q1 := @fm_lt (Int.fdiv sib 8) 8 (by decide)
    have q2 := @fm_lt sib 8 (by decide)
    unfold needSh needless meaning
    dsimp only
    generalize Int.fmod (Int.fdiv sib 8) 8 = i at *
    generalize Int.fmod sib 8 = l at *
    generalize [1, 2, 4, 8].getD (Int.fdiv sib 64).toNat 0 = sc
    have a1 : ¬ mod = 3 := by omega
    have a2 : ¬ sib < 0 := by omega
    simp only [if_neg a1, if_neg a2, if_true, decide_eq_true h0, Bool.true_and]
    rcases hx with rfl | rfl
    · by_cases c1 : i = 4
      · subst c1
        by_cases c2 : l = 4
        · subst c2; simp
        · by_cases c3 : l = 5
          · subst c3
            by_cases c4 : mod = 0
            · subst c4; simp
            · simp [c4]
          · simp [c2, c3]
      · have : ¬ i < 0 := by omega
        simp [c1, this]
    · simp
  · have e : needSh ⟨mod, rm, -1, wd, x, b⟩ = false := by
      unfold needSh
      dsimp only
      split
      · rfl
      · rfl
    rw [e]
    unfold needless
    simp
end Mine
namespace Mine
theorem bd32 {g : Int} : 0 ≤ Int.fmod g 3 ∧ Int.fmod g 3 ≤ 2 := by have := @fm_lt g 3 (by decide); omega
end Mine
namespace Mine
section
variable {mod rm sib wd x b : Int} (hm : 0 ≤ mod ∧ mod ≤ 2) (hx : x = 0 ∨ x = 1) (hs : rm = 4 ∧ 0 ≤ sib ∧ sib < 256 ∨ rm ≠ 4 ∧ sib = -1)
include hm hx hs
theorem odd_e1 (h0 : x = 0) (h1 : (meaning mod rm sib x b).2.1 < 0) : needSh ⟨mod, rm, sib, wd, x, b⟩ = needless mod rm sib b := by
  rw [odd_law hm hx hs, decide_eq_true h0, decide_eq_true h1, Bool.true_and, Bool.true_and]
theorem odd_e2 (h0 : x = 0) (h1 : ¬ (meaning mod rm sib x b).2.1 < 0) : needSh ⟨mod, rm, sib, wd, x, b⟩ = decide ((meaning mod rm sib x b).2.1 < 0) := by
  rw [odd_law hm hx hs, decide_eq_true h0, decide_eq_false h1, Bool.true_and, Bool.false_and]
theorem odd_e3 (h0 : x ≠ 0) : needSh ⟨mod, rm, sib, wd, x, b⟩ = (x == 0) := by
  rw [odd_law hm hx hs, decide_eq_false h0, Bool.false_and, beq_eq_false_iff_ne.mpr h0]
end
theorem three_no {g : Int} (h : g = 3) (h0 : Int.fdiv g 2 = 0) : False := by rw [h] at h0; exact absurd h0 (by decide)
end Mine
end
section
open PySem
namespace Mine
theorem pigeon : ∀ (n : Nat) (l : List Nat), l.length < n → ∃ j, j < n ∧ j ∉ l
  | 0, _, h => by omega
  | n + 1, l, h => by
    by_cases hn : n ∈ l
    · have e := List.length_erase_of_mem hn
      have p : 0 < l.length := List.length_pos_of_mem hn
      obtain ⟨j, hj, hm⟩ := pigeon n (l.erase n) (by omega)
      exact ⟨j, by omega, fun q => hm ((List.mem_erase_of_ne (by omega)).mpr q)⟩
    · exact ⟨n, by omega, hn⟩
noncomputable def lcg (M i : Nat) : Nat := (i * 5 + 1) % (M + 1)
noncomputable def lcgs (M : Nat) : Nat → Nat → List Nat
  | 0, i => [i]
  | n + 1, i => i :: lcgs M n (lcg M i)
noncomputable def leaps (M : Nat) : Nat → Nat × Nat → Nat × Nat
  | 0, q => q
  | n + 1, q => leaps M n (SetTable.leap M q.1 q.2)
theorem leaps_succ (M : Nat) : ∀ (n : Nat) (q : Nat × Nat), leaps M (n + 1) q = SetTable.leap M (leaps M n q).1 (leaps M n q).2
  | 0, _ => rfl
  | n + 1, q => leaps_succ M n _
theorem leaps_add (M m : Nat) : ∀ (n : Nat) (q : Nat × Nat), leaps M (n + m) q = leaps M m (leaps M n q)
  | 0, q => by rw [Nat.zero_add]; rfl
  | n + 1, q => by
    rw [show n + 1 + m = (n + m) + 1 by omega]
    exact leaps_add M m n _
theorem leaps_per (M : Nat) : ∀ (n : Nat) (q : Nat × Nat), (leaps M n q).2 = q.2 / 32 ^ n
  | 0, q => by simp [leaps]
  | n + 1, q => by
    show (leaps M n _).2 = _
    rw [leaps_per M n]
    show q.2 / 32 / 32 ^ n = _
    rw [Nat.div_div_eq_div_mul, Nat.pow_succ, Nat.mul_comm]
theorem leaps_lt (M : Nat) (n : Nat) (q : Nat × Nat) : (leaps M (n + 1) q).1 < M + 1 := by
  rw [leaps_succ]
  exact Nat.mod_lt _ (Nat.succ_pos _)
theorem leaps_zero (M : Nat) : ∀ (n i k : Nat), k ∈ lcgs M n i → ∃ m, m ≤ n ∧ leaps M m (i, 0) = (k, 0)
  | 0, i, k, h => ⟨0, Nat.le_refl _, by rw [List.mem_singleton.mp h]; rfl⟩
  | n + 1, i, k, h => by
    rcases List.mem_cons.mp h with rfl | h
    · exact ⟨0, Nat.zero_le _, rfl⟩
    · obtain ⟨m, hm, e⟩ := leaps_zero M n _ k h
      refine ⟨m + 1, by omega, ?_⟩
      show leaps M m (SetTable.leap M i 0) = _
      rw [← e]
      show leaps M m ((i * 5 + 1 + 0 / 32) % (M + 1), 0 / 32) = leaps M m ((i * 5 + 1) % (M + 1), 0)
      rfl
theorem full7 : ∀ i, i < 8 → ∀ k, k < 8 → k ∈ lcgs 7 7 i := by decide +kernel
theorem full31 : ∀ i, i < 32 → ∀ k, k < 32 → k ∈ lcgs 31 31 i := by decide +kernel
theorem leaps_hit {M : Nat} (hM : M = 7 ∨ M = 31) (q : Nat × Nat) (hq : q.2 < 2 ^ 64) (k : Nat) (hk : k ≤ M) : ∃ m, 1 ≤ m ∧ m ≤ 13 + M ∧ (leaps M m q).1 = k := by
  have h2 : (leaps M 13 q).2 = 0 := by rw [leaps_per]; exact Nat.div_eq_of_lt (Nat.lt_of_lt_of_le hq (by decide))
  have h1 := leaps_lt M 12 q
  have hc : k ∈ lcgs M M (leaps M 13 q).1 := by
    rcases hM with rfl | rfl
    · exact full7 _ h1 k (by omega)
    · exact full31 _ h1 k (by omega)
  obtain ⟨m, hm, e⟩ := leaps_zero M M _ k hc
  refine ⟨13 + m, by omega, by omega, ?_⟩
  rw [leaps_add]
  have e2 : leaps M 13 q = ((leaps M 13 q).1, 0) := Prod.ext rfl h2
  rw [e2, e]
section
variable {t : SetTable}
noncomputable def adv (t : SetTable) : Nat → SetTable.Probe → SetTable.Probe
  | 0, p => p
  | n + 1, p => adv t n (t.advance p)
theorem adv_add (m : Nat) : ∀ (n : Nat) (p : SetTable.Probe), adv t (n + m) p = adv t m (adv t n p)
  | 0, p => by rw [Nat.zero_add]; rfl
  | n + 1, p => by
    rw [show n + 1 + m = (n + m) + 1 by omega]
    exact adv_add m n _
theorem advance_more {p : SetTable.Probe} (h : p.more > 0) : t.advance p = { p with j := p.j + 1, more := p.more - 1 } := by
  unfold SetTable.advance; rw [if_pos h]
theorem advance_leap {p : SetTable.Probe} (h : ¬ p.more > 0) : t.advance p = { p with j := (SetTable.leap t.mask p.i p.perturb).1, more := SetTable.runEnd t.mask (SetTable.leap t.mask p.i p.perturb).1 - (SetTable.leap t.mask p.i p.perturb).1, i := (SetTable.leap t.mask p.i p.perturb).1, perturb := (SetTable.leap t.mask p.i p.perturb).2 } := by
  unfold SetTable.advance; rw [if_neg h]
theorem advance_dummy {p : SetTable.Probe} : (t.advance p).dummy = p.dummy := by
  by_cases h : p.more > 0
  · rw [advance_more h]
  · rw [advance_leap h]
theorem run_end (mask i : Nat) : SetTable.runEnd mask i - i ≤ 9 := by unfold SetTable.runEnd; split <;> omega
theorem adv_run : ∀ (m : Nat) (p : SetTable.Probe), p.more = m → (adv t (m + 1) p).j = (SetTable.leap t.mask p.i p.perturb).1 ∧ (adv t (m + 1) p).i = (SetTable.leap t.mask p.i p.perturb).1 ∧ (adv t (m + 1) p).perturb = (SetTable.leap t.mask p.i p.perturb).2 ∧ (adv t (m + 1) p).more ≤ 9
  | 0, p, h => by
    show (t.advance p).j = _ ∧ (t.advance p).i = _ ∧ (t.advance p).perturb = _ ∧ (t.advance p).more ≤ 9
    rw [advance_leap (by omega)]
    exact ⟨rfl, rfl, rfl, run_end _ _⟩
  | m + 1, p, h => by
    show (adv t (m + 1) (t.advance p)).j = _ ∧ (adv t (m + 1) (t.advance p)).i = _ ∧ (adv t (m + 1) (t.advance p)).perturb = _ ∧ (adv t (m + 1) (t.advance p)).more ≤ 9
    rw [advance_more (by omega)]
    exact adv_run m _ (by show p.more - 1 = m; omega)
theorem adv_leaps : ∀ (k : Nat) (p : SetTable.Probe), p.more ≤ 9 → ∃ n, n ≤ 10 * (k + 1) ∧ (adv t n p).j = (leaps t.mask (k + 1) (p.i, p.perturb)).1
  | 0, p, h => by
    obtain ⟨a, b, c, d⟩ := adv_run (t := t) p.more p rfl
    exact ⟨p.more + 1, by omega, a⟩
  | k + 1, p, h => by
    obtain ⟨a, b, c, d⟩ := adv_run (t := t) p.more p rfl
    obtain ⟨n, hn, e⟩ := adv_leaps k (adv t (p.more + 1) p) d
    refine ⟨p.more + 1 + n, by omega, ?_⟩
    rw [adv_add, e, b, c]
    rfl
theorem adv_hit (hM : t.mask = 7 ∨ t.mask = 31) {p : SetTable.Probe} (h9 : p.more ≤ 9) (hq : p.perturb < 2 ^ 64) {k : Nat} (hk : k ≤ t.mask) : ∃ n, n < 10 * SetTable.turns t.mask ∧ (adv t n p).j = k := by
  obtain ⟨m, h1, h2, e⟩ := leaps_hit hM (p.i, p.perturb) hq k hk
  obtain ⟨n, hn, e2⟩ := adv_leaps (t := t) (m - 1) p h9
  refine ⟨n, ?_, ?_⟩
  · unfold SetTable.turns; rcases hM with h | h <;> rw [h] at h2 ⊢ <;> omega
  · rw [e2, show m - 1 + 1 = m by omega, e]
theorem slot_empty (hd : t.dummies = #[]) {j : Nat} (hj : j ∉ t.place.toList) : t.slot j = .empty := by
  unfold SetTable.slot
  have h1 : (t.place[SetTable.below t.place j]? == some j) = false := by
    rw [beq_eq_false_iff_ne]
    intro e
    apply hj
    rw [← Array.mem_def]
    exact Array.mem_of_getElem? e
  have h2 : SetTable.has t.dummies j = false := by rw [hd]; rfl
  dsimp only
  rw [h1, h2]; rfl
theorem slot_or (hd : t.dummies = #[]) (j : Nat) : t.slot j = .empty ∨ ∃ i, t.slot j = .live i ∧ i < t.place.size := by
  unfold SetTable.slot
  have h2 : SetTable.has t.dummies j = false := by rw [hd]; rfl
  dsimp only
  by_cases h1 : (t.place[SetTable.below t.place j]? == some j) = true
  · rw [if_pos h1]
    have e := beq_iff_eq.mp h1
    exact .inr ⟨_, rfl, (Array.getElem?_eq_some_iff.mp e).1⟩
  · rw [if_neg h1, h2]; exact .inl rfl
theorem go_met (hd : t.dummies = #[]) (hashAt : Nat → Int) (h : Int) : ∀ (n fuel : Nat) (p : SetTable.Probe), n < fuel → p.dummy = none → t.slot (adv t n p).j = .empty →
    (∃ j, SetTable.probe.go t hashAt h fuel p = some (.empty j none)) ∨ ∃ m i, m < n ∧ t.slot (adv t m p).j = .live i ∧ i < t.place.size ∧ SetTable.probe.go t hashAt h fuel p = some (.candidate (adv t m p).j i (adv t (m + 1) p))
  | n, 0, p, hf, _, _ => by omega
  | n, fuel + 1, p, hf, hp, he => by
    rw [SetTable.probe.go]
    rcases slot_or hd p.j with h0 | ⟨i, h0, hi⟩
    · rw [h0]; exact .inl ⟨_, by rw [hp]⟩
    · rw [h0]
      cases n with
      | zero => rw [show adv t 0 p = p from rfl, h0] at he; cases he
      | succ n =>
        dsimp only
        by_cases hh : (hashAt i == h) = true
        · rw [if_pos hh]; exact .inr ⟨0, i, by omega, h0, hi, rfl⟩
        · rw [if_neg hh]
          rcases go_met hd hashAt h n fuel (t.advance p) (by omega) (by rw [advance_dummy]; exact hp) he with ⟨j, e⟩ | ⟨m, i', hm, e1, e2, e3⟩
          · exact .inl ⟨j, e⟩
          · exact .inr ⟨m + 1, i', by omega, e1, e2, e3⟩
end
end Mine
end
section
open PySem
namespace Mine
theorem fm_congr {α β : Type} {f g : α → Option β} : ∀ (l : List α), (∀ x ∈ l, f x = g x) → l.filterMap f = l.filterMap g
  | [], _ => rfl
  | x :: l, h => by rw [List.filterMap_cons, List.filterMap_cons, h x (.head _), fm_congr l fun y hy => h y (.tail _ hy)]
theorem filterMap_upd {α : Type} (f : Nat → Option α) (j : Nat) (v : α) (hf : f j = none) : ∀ (l : List Nat), l.Nodup → j ∈ l → (l.filterMap fun i => if i = j then some v else f i).Perm (v :: l.filterMap f)
  | [], _, h => by simp at h
  | i :: l, nd, h => by
    have nd2 := List.nodup_cons.mp nd
    by_cases e : i = j
    · subst e
      have same : l.filterMap (fun k => if k = i then some v else f k) = l.filterMap f := by
        refine fm_congr _ fun k hk => ?_
        rw [if_neg (fun q : k = i => nd2.1 (q ▸ hk))]
      rw [List.filterMap_cons, List.filterMap_cons, if_pos rfl, hf, same]
    · have hj : j ∈ l := by
        rcases List.mem_cons.mp h with q | q
        · exact absurd q.symm e
        · exact q
      have ih := filterMap_upd f j v hf l nd2.2 hj
      rw [List.filterMap_cons, List.filterMap_cons, if_neg e]
      cases hfi : f i with
      | none => exact ih
      | some a => exact (ih.cons a).trans (List.Perm.swap _ _ _)
noncomputable abbrev own (o : Array (Option Nat)) (j : Nat) : Option Nat := o.getD j none
structure Laid (o : Array (Option Nat)) (k : Nat) : Prop where
  size : o.size = 32
  perm : ((List.range 32).filterMap (own o)).Perm (List.range k)
theorem filterMap_none_len {α β : Type} {f : α → Option β} : ∀ (l : List α), (∀ x ∈ l, f x ≠ none) → (l.filterMap f).length = l.length
  | [], _ => rfl
  | x :: l, h => by
    have hx := h x (.head _)
    cases e : f x with
    | none => exact absurd e hx
    | some b => rw [List.filterMap_cons, e]; simp only [List.length_cons]; rw [filterMap_none_len l fun y hy => h y (.tail _ hy)]
theorem Laid.free {o : Array (Option Nat)} {k : Nat} (h : Laid o k) (hk : k < 32) : ∃ j, j < 32 ∧ own o j = none := by
  apply Classical.byContradiction
  intro q
  have e := filterMap_none_len (f := own o) (List.range 32) fun j hj hn => q ⟨j, List.mem_range.mp hj, hn⟩
  have e2 := h.perm.length_eq
  rw [e, List.length_range, List.length_range] at e2
  omega
theorem Laid.put {o : Array (Option Nat)} {k j : Nat} (h : Laid o k) (hj : j < 32) (hn : own o j = none) : Laid (o.setIfInBounds j (some k)) (k + 1) := by
  refine ⟨by rw [Array.size_setIfInBounds]; exact h.size, ?_⟩
  have e : own (o.setIfInBounds j (some k)) = fun i => if i = j then some k else own o i := by
    funext i
    unfold own
    rw [Array.getD_eq_getD_getElem?, Array.getD_eq_getD_getElem?, Array.getElem?_setIfInBounds]
    by_cases q : j = i
    · subst q; rw [if_pos rfl, if_pos rfl, if_pos (by rw [h.size]; exact hj)]; rfl
    · rw [if_neg q, if_neg (Ne.symm q)]
  rw [e]
  exact (filterMap_upd (own o) j k hn _ List.nodup_range (List.mem_range.mpr hj)).trans ((h.perm.cons k).trans (by rw [List.range_succ (n := k)]; exact List.perm_append_comm (l₁ := [k])))
theorem getD_some {o : Array (Option Nat)} {j : Nat} (h : (o.getD j (some 0)).isNone = true) (hs : o.size = 32) : j < 32 ∧ own o j = none := by
  rw [Array.getD_eq_getD_getElem?] at h
  unfold own
  rw [Array.getD_eq_getD_getElem?]
  cases e : o[j]? with
  | none => rw [e] at h; simp at h
  | some v =>
    rw [e] at h
    have hj := (Array.getElem?_eq_some_iff.mp e).1
    refine ⟨by rw [← hs]; exact hj, ?_⟩
    cases v with
    | none => rfl
    | some x => simp at h
theorem free_go {o : Array (Option Nat)} (hs : o.size = 32) : ∀ (m fuel i q : Nat), m < fuel → own o (leaps 31 m (i, q)).1 = none → (leaps 31 m (i, q)).1 < 32 → ∃ j, SetTable.layClean.free 31 o fuel i q = some j ∧ j < 32 ∧ own o j = none
  | m, 0, i, q, h, _, _ => by omega
  | m, fuel + 1, i, q, h, he, hl => by
    rw [SetTable.layClean.free]
    cases hf : (List.range (SetTable.runEnd 31 i + 1 - i)).find? fun k => (o.getD (i + k) (some 0)).isNone with
    | some k => exact ⟨i + k, rfl, getD_some (List.find?_some (p := fun k => (o.getD (i + k) (some 0)).isNone) hf) hs⟩
    | none =>
      cases m with
      | zero =>
        have hz : 0 ∈ List.range (SetTable.runEnd 31 i + 1 - i) := List.mem_range.mpr (by unfold SetTable.runEnd; split <;> omega)
        have hno := List.find?_eq_none.mp hf 0 hz
        exfalso
        apply hno
        have he' : own o i = none := he
        have hl' : i < 32 := hl
        show (o.getD (i + 0) (some 0)).isNone = true
        rw [Nat.add_zero]
        unfold own at he'
        rw [Array.getD_eq_getD_getElem?] at he' ⊢
        have hi : i < o.size := by rw [hs]; exact hl'
        rw [Array.getElem?_eq_getElem hi] at he' ⊢
        simp only [Option.getD_some] at he' ⊢
        rw [he']; rfl
      | succ m => exact free_go hs m fuel _ _ (by omega) he hl
theorem free_some {o : Array (Option Nat)} {k : Nat} (h : Laid o k) (hk : k < 32) (i q : Nat) (hq : q < 2 ^ 64) : ∃ j, SetTable.layClean.free 31 o (SetTable.turns 31) i q = some j ∧ j < 32 ∧ own o j = none := by
  obtain ⟨z, hz, hn⟩ := h.free hk
  obtain ⟨m, h1, h2, e⟩ := leaps_hit (M := 31) (.inr rfl) (i, q) hq z (by omega)
  exact free_go h.size m _ i q (by unfold SetTable.turns; omega) (by rw [e]; exact hn) (by rw [e]; exact hz)
theorem bits_lt (h : Int) : SetTable.bits h < 2 ^ 64 := by unfold SetTable.bits; omega
noncomputable abbrev layStep (acc : Option (Array (Option Nat) × Nat)) (h : Int) : Option (Array (Option Nat) × Nat) := do
  let (owner, k) ← acc
  let j ← SetTable.layClean.free 31 owner (SetTable.turns 31) (SetTable.bits h % (31 + 1)) (SetTable.bits h)
  pure (owner.setIfInBounds j (some k), k + 1)
theorem lay_list : ∀ (l : List Int) (o : Array (Option Nat)) (k : Nat), Laid o k → k + l.length ≤ 32 → ∃ o', l.foldl layStep (some (o, k)) = some (o', k + l.length) ∧ Laid o' (k + l.length)
  | [], o, k, h, _ => ⟨o, rfl, h⟩
  | x :: l, o, k, h, hl => by
    rw [List.length_cons] at hl
    obtain ⟨j, e, hj, hn⟩ := free_some h (by omega) (SetTable.bits x % (31 + 1)) (SetTable.bits x) (bits_lt x)
    obtain ⟨o', e', L⟩ := lay_list l _ (k + 1) (h.put hj hn) (by omega)
    refine ⟨o', ?_, ?_⟩
    · rw [List.foldl_cons]
      have : layStep (some (o, k)) x = some (o.setIfInBounds j (some k), k + 1) := by
        show (SetTable.layClean.free 31 o (SetTable.turns 31) (SetTable.bits x % (31 + 1)) (SetTable.bits x) >>= fun j => pure (o.setIfInBounds j (some k), k + 1)) = _
        rw [e]; rfl
      rw [this, e', List.length_cons]
      congr 2; omega
    · rw [List.length_cons, show k + (l.length + 1) = k + 1 + l.length by omega]; exact L
theorem lay_clean {hs : Array Int} (h : hs.size ≤ 32) : ∃ o, SetTable.layClean 31 hs = some o ∧ Laid o hs.size := by
  have L0 : Laid (Array.replicate (31 + 1) none) 0 := ⟨by simp, by
    rw [List.filterMap_eq_nil_iff.mpr fun j _ => by unfold own; rw [Array.getD_eq_getD_getElem?]; cases e : (Array.replicate (31 + 1) (none : Option Nat))[j]? with
      | none => rfl
      | some v => simp [Array.getElem?_replicate] at e; rw [← e.2]; rfl]
    exact List.Perm.refl _⟩
  obtain ⟨o, e, L⟩ := lay_list hs.toList _ 0 L0 (by simpa using h)
  refine ⟨o, ?_, by simpa using L⟩
  unfold SetTable.layClean
  rw [← Array.foldl_toList]
  have e2 : (hs.toList.foldl layStep (some (Array.replicate (31 + 1) none, 0))).map (·.1) = some o := by rw [e]; rfl
  exact e2
theorem laid_some {hs : Array Int} (h : hs.size ≤ 31) (f m : Nat) (led plain : Bool) : ∃ t order, SetTable.laid 31 f m led plain hs = some (t, order) ∧ t.mask = 31 ∧ t.dummies = #[] ∧ t.place.size = hs.size ∧ t.led = led ∧ t.plain = plain ∧ order.toList.Perm (List.range hs.size) := by
  obtain ⟨o, e, L⟩ := lay_clean (hs := hs) (by omega)
  have eo : ((List.range 32).filterMap fun j => (o.getD j none).map (j, ·)).map (·.2) = (List.range 32).filterMap (own o) := by
    rw [List.map_filterMap]
    apply fm_congr
    intro j _
    unfold own
    cases o.getD j none <;> rfl
  unfold SetTable.laid
  rw [e]
  refine ⟨_, _, rfl, rfl, rfl, ?_, rfl, rfl, ?_⟩
  · show (((List.range 32).filterMap fun j => (o.getD j none).map (j, ·)).map (·.1)).toArray.size = _
    rw [List.size_toArray, List.length_map]
    have e2 := congrArg List.length eo
    rw [List.length_map] at e2
    rw [e2, L.perm.length_eq, List.length_range]
  · show (((List.range 32).filterMap fun j => (o.getD j none).map (j, ·)).map (·.2)).toArray.toList.Perm _
    rw [eo]; exact L.perm
theorem pick_list {α : Type} : ∀ (l : List α), (List.range l.length).filterMap (l[·]?) = l
  | [] => rfl
  | x :: l => by
    rw [List.length_cons, List.range_succ_eq_map, List.filterMap_cons, List.filterMap_map]
    have e : (l.length |> List.range).filterMap ((fun i => (x :: l)[i]?) ∘ Nat.succ) = l := by
      have h := pick_list l
      exact h
    show x :: _ = _
    rw [e]
theorem pick_range {α : Type} (es : Array α) : (List.range es.size).filterMap (es[·]?) = es.toList := by
  have h := pick_list es.toList
  rw [Array.length_toList] at h
  rw [← h]
  apply fm_congr
  intro i _
  exact (Array.getElem?_toList ..).symm
theorem pick_perm2 {α : Type} {es : Array α} {order : Array Nat} (h : order.toList.Perm (List.range es.size)) : (order.filterMap (es[·]?)).toList.Perm es.toList := by
  rw [Array.toList_filterMap, ← pick_range es]
  exact h.filterMap _
end Mine
end
section
open PySem PySem.W PySem.Calls PyProof.Rows PySem.Spec
namespace Mine
section
variable {prog : Program} {w : World} {A : Around} {E : Value → Shared → Prop} {s : Shared}
noncomputable def TK (prog : Program) (w : World) (h : Heap) (v : Value) (sh : Sh) : Prop := ∃ a, v = .ref a ∧ IsTupleKey (intKind prog w) h (shL sh) a
theorem tk_of {h₀ h : Heap} {L : Addr} {news : List (Addr × Obj)} {v : Value} {sh : Sh} (N : News h₀ L h news) (hv : FIn news v sh) : TK prog w h v sh := by
  cases hv with
  | mk hm =>
    exact ⟨_, rfl, _, _, _, (N _ hm).1, rfl, rfl, .cons (intKind_is _ _ _ _) (.cons (intKind_is _ _ _ _) (.cons (intKind_is _ _ _ _) (.cons (intKind_is _ _ _ _) (.cons (intKind_is _ _ _ _) (.cons (intKind_is _ _ _ _) .nil)))))⟩
structure SetSt (prog : Program) (w : World) (h : Heap) (S : Addr) (zs : List Sh) (es : Array (Int × Value)) (t : SetTable) : Prop where
  obj : ∃ o ep, h.get? S = some o ∧ o.ExactSet ∧ o.data = .set es ep t
  place : t.place.size = es.size
  dum : t.dummies = #[]
  mask : t.mask = 7 ∧ es.size ≤ 4 ∨ t.mask = 31 ∧ 5 ≤ es.size ∧ es.size < 19
  of : ∀ e ∈ es.toList, ∃ sh ∈ zs, TK prog w h e.2 sh
theorem SetSt.fits {h : Heap} {S : Addr} {zs : List Sh} {es : Array (Int × Value)} {t : SetTable} (I : SetSt prog w h S zs es t) : t.fits es.size = true := by
  unfold SetTable.fits SetTable.fill
  rw [I.place, I.dum]
  simp only [beq_self_eq_true, Bool.true_and, decide_eq_true_eq]
  show es.size ≤ t.mask
  rcases I.mask with ⟨e, q⟩ | ⟨e, -, q⟩ <;> rw [e]
  · exact Nat.le_trans q (by decide)
  · exact Nat.le_of_lt (Nat.lt_trans q (by decide))
theorem SetSt.m7 {h : Heap} {S : Addr} {zs : List Sh} {es : Array (Int × Value)} {t : SetTable} (I : SetSt prog w h S zs es t) : t.mask = 7 ∨ t.mask = 31 := I.mask.elim (fun h => .inl h.1) fun h => .inr h.1
theorem if_ff {M : Model} {α : Type} {a b : Sem α} {Q : α → Shared → Prop} (h : wpAny M A b Q E s) : wpAny M A (if false = true then a else b) Q E s := h
theorem if_tt {M : Model} {α : Type} {a b : Sem α} {Q : α → Shared → Prop} (h : wpAny M A a Q E s) : wpAny M A (if true = true then a else b) Q E s := h
theorem check_skip {M : Model} {α : Type} {c : Bool} {look : Sem Bool} {bad m : Sem α} {Q : α → Shared → Prop} (hs : ∀ R : Bool → Shared → Prop, R false s → wpAny M A look R E s) (h : wpAny M A m Q E s) : wpAny M A (if c = true then (look >>= fun r => if r = true then bad else m) else m) Q E s := by
  cases c
  · exact h
  · exact wpAny_bind (hs _ h)
theorem if_both {M : Model} {α β : Type} {c : Prop} [Decidable c] {a b : Sem α} {f : α → Sem β} (v : α) {Q : β → Shared → Prop} (ha : ∀ R : α → Shared → Prop, R v s → wpAny M A a R E s) (hb : ∀ R : α → Shared → Prop, R v s → wpAny M A b R E s) (h : wpAny M A (f v) Q E s) : wpAny M A (if c then a >>= f else b >>= f) Q E s := by
  by_cases hc : c
  · rw [if_pos hc]; exact wpAny_bind (ha _ h)
  · rw [if_neg hc]; exact wpAny_bind (hb _ h)
theorem class_no {a : Addr} {ks : List Int} {Q : Bool → Shared → Prop} (hk : IsTupleKey (intKind prog w) s.heap ks a) (h : Q false s) : wpAny (model prog w) A (ofAClassStatement 8 (.ref a)) Q E s := by
  have hT := hk.typeIs
  obtain ⟨o, items, n, ho, hc, hd, hi⟩ := hk
  unfold ofAClassStatement
  refine wpAny_bind (wpAny_typeOf (T := "tuple") hT ?_)
  dsimp only
  refine wpAny_bind (wpAny_pure ?_)
  refine if_ff ?_
  refine wpAny_bind (wpAny_seqItems ho hd ?_)
  dsimp only
  refine wpAny_bind ?_
  rw [← Array.forIn_toList]
  refine wpAny_forIn_list _ (fun rest r s' => r.1 = none ∧ s' = s ∧ ∃ ks, ItemsAre (intKind prog w) ks rest) _ ?_ ?_ _ _ ⟨rfl, rfl, _, hi⟩
  · rintro v rest r s' ⟨hr, rfl, ks, hall⟩
    cases hall with
    | @cons k _ ks' _ h1 h2 =>
      have hv : ∃ x t, v = .int x t := by
        cases v <;> first | exact ⟨_, _, rfl⟩ | (simp [intKind, Value.isInt] at h1)
      obtain ⟨x, t, rfl⟩ := hv
      unfold ofAClassStatement
      refine wpAny_bind (wpAny_pure ?_)
      refine if_ff ?_
      exact wpAny_pure ⟨rfl, rfl, _, h2⟩
  · rintro ⟨r1, r2⟩ s' ⟨hr, rfl, _⟩
    simp only at hr
    subst hr
    exact wpAny_pure h
theorem seen_no {x : Value} {sx : Sh} (hx : TK prog w s.heap x sx) {ys : List Value} {Q : Bool → Shared → Prop} (hy : ∀ y ∈ ys, ∃ sy, TK prog w s.heap y sy) (h : Q false s) : wpAny (model prog w) A (searchCouldBeSeen x ys) Q E s := by
  obtain ⟨a, rfl, ka⟩ := hx
  unfold searchCouldBeSeen
  refine wpAny_bind ?_
  refine wpAny_forIn_list _ (fun rest r s' => r.1 = none ∧ s' = s ∧ ∀ y ∈ rest, ∃ sy, TK prog w s.heap y sy) _ ?_ ?_ _ _ ⟨rfl, rfl, hy⟩
  · rintro v rest r s' ⟨hr, rfl, hall⟩
    obtain ⟨sy, b, rfl, kb⟩ := hall _ List.mem_cons_self
    dsimp only
    have hc : (carriedByValue (.ref a) && carriedByValue (.ref b)) = false := rfl
    rw [hc, Bool.or_false]
    by_cases e : (a == b) = true
    · rw [if_pos e]
      exact wpAny_pure ⟨rfl, rfl, fun y hy => hall y (List.mem_cons_of_mem _ hy)⟩
    · rw [if_neg e]
      refine wpAny_bind (wpAny_eqIsQuiet_tuple ka ?_)
      refine if_ff ?_
      refine wpAny_bind (wpAny_eqIsQuiet_tuple kb ?_)
      refine if_ff ?_
      refine wpAny_bind (class_no ka ?_)
      refine if_ff ?_
      refine wpAny_bind (class_no kb ?_)
      refine if_ff ?_
      exact wpAny_pure ⟨rfl, rfl, fun y hy => hall y (List.mem_cons_of_mem _ hy)⟩
  · rintro ⟨r1, r2⟩ s' ⟨hr, rfl, _⟩
    simp only at hr
    subst hr
    exact wpAny_pure h
theorem eq_no {x y : Value} {sx sy : Sh} (hu : A.units < cLine) (hx : TK prog w s.heap x sx) (hy : TK prog w s.heap y sy) (hn : sy ≠ sx) {Q : Bool → Shared → Prop} (h : Q false s) : wpAny (model prog w) A (eqBool y x) Q E s := by
  obtain ⟨a, rfl, ka⟩ := hx
  obtain ⟨b, rfl, kb⟩ := hy
  refine wpAny_eqBool_tuple hu kb ka ?_
  rw [decide_eq_false (fun e => hn (shL_inj e))]
  exact h
theorem adv_dummy {t : SetTable} : ∀ (k : Nat) (p : SetTable.Probe), (adv t k p).dummy = p.dummy
  | 0, _ => rfl
  | k + 1, p => by
    show (adv t k (t.advance p)).dummy = _
    rw [adv_dummy k, advance_dummy]
theorem search_free {S : Addr} {zs : List Sh} {es : Array (Int × Value)} {t : SetTable} (hu : A.units < cLine) (I : SetSt prog w s.heap S zs es t) {x : Value} {sx : Sh} (hx : TK prog w s.heap x sx) (hn : sx ∉ zs) (hs : Int) {Q : SetFound → Shared → Prop} (h : ∀ j, Q (.free j false) s) :
    ∀ (n fuel : Nat) (stand : Option SetTable.Probe) (p : SetTable.Probe), stand.getD (t.probeStart hs) = p → n < fuel → n < 10 * SetTable.turns t.mask → p.dummy = none → t.slot (adv t n p).j = .empty → wpAny (model prog w) A (setSearchFrom S x hs true fuel stand) Q E s
  | n, 0, _, _, _, hf, _, _, _ => by omega
  | n, fuel + 1, stand, p, hp, hf, hz, hd, he => by
    obtain ⟨o, ep, ho, hex, hdat⟩ := I.obj
    refine wpAny_bind (wpAny_setState_of ho hdat I.fits ?_)
    dsimp only
    have hg : t.gaveWay = false := by unfold SetTable.gaveWay; rcases I.m7 with e | e <;> rw [e] <;> rfl
    rw [hg, hp]
    refine if_ff ?_
    unfold SetTable.probe
    rcases go_met I.dum _ hs n _ p hz hd he with ⟨j, e⟩ | ⟨m, i, hm, e1, e2, e3⟩
    · rw [e]
      dsimp only
      exact wpAny_pure (h j)
    · rw [e3]
      dsimp only
      have hi : i < es.size := by rw [← I.place]; exact e2
      have hget : es[i]? = some es[i] := Array.getElem?_eq_getElem hi
      obtain ⟨sy, hsy, ky⟩ := I.of es[i] (by rw [← Array.mem_def]; exact Array.getElem_mem hi)
      refine check_skip (fun _ hR => seen_no hx (fun y hy => ?_) hR) ?_
      · obtain ⟨e, he, rfl⟩ := List.mem_map.mp hy
        rw [Array.toList_filter] at he
        exact (I.of e (List.mem_filter.mp he).1).imp fun _ q => q.2
      rw [hget]
      dsimp only
      refine wpAny_bind (wpAny_holding (eq_no hu hx ky (fun q => hn (q ▸ hsy)) (wpAny_bind (wpAny_setState_of ho hdat I.fits ?_))))
      dsimp only
      have hsm : t.sameMemory t.moves t.mask = some true := by unfold SetTable.sameMemory; rw [if_pos (by simp)]
      refine if_ff ?_
      rw [hsm]
      dsimp only
      rw [if_pos rfl, e1]
      dsimp only
      rw [hget]
      dsimp only
      obtain ⟨b, hb, kb⟩ := ky
      rw [hb]
      refine wpAny_bind ?_
      unfold isSame
      dsimp only
      rw [if_pos (by simp)]
      exact wpAny_pure (wpAny_bind (wpAny_pure (search_free hu I hx hn hs h (n - (m + 1)) fuel (some (adv t (m + 1) p)) (adv t (m + 1) p) rfl (by omega) (by omega) (by rw [adv_dummy]; exact hd) (by rw [← adv_add, show m + 1 + (n - (m + 1)) = n by omega]; exact he))))
end
end Mine
end
section
open PySem PySem.W PySem.Calls PyProof.Rows PySem.Spec
namespace Mine
section
variable {prog : Program} {w : World} {A : Around} {E : Value → Shared → Prop} {s : Shared}
theorem hash_val {a : Addr} {ks : List Int} {Q : Bool → Shared → Prop} (hk : IsTupleKey (intKind prog w) s.heap ks a) (h : Q true s) : wpAny (model prog w) A (hashByValue 8 (.ref a)) Q E s := by
  have hT := hk.typeIs
  obtain ⟨o, items, n, ho, hc, hd, hi⟩ := hk
  unfold hashByValue
  refine wpAny_bind (wpAny_specialOf hT F.slot_tuple_hash.lookup ?_)
  dsimp only
  refine wpAny_bind (wpAny_seqItems ho hd ?_)
  dsimp only [Option.getD_some]
  refine wpAny_bind ?_
  rw [← Array.forIn_toList]
  refine wpAny_forIn_list _ (fun rest r s' => r.1 = none ∧ s' = s ∧ ∃ ks, ItemsAre (intKind prog w) ks rest) _ ?_ ?_ _ _ ⟨rfl, rfl, _, hi⟩
  · rintro v rest r s' ⟨hr, rfl, ks, hall⟩
    cases hall with
    | @cons k _ ks' _ h1 h2 =>
      have hv : ∃ x t, v = .int x t := by
        cases v <;> first | exact ⟨_, _, rfl⟩ | (simp [intKind, Value.isInt] at h1)
      obtain ⟨x, t, rfl⟩ := hv
      unfold hashByValue
      refine wpAny_bind (wpAny_pure ?_)
      refine if_ff ?_
      exact wpAny_pure ⟨rfl, rfl, _, h2⟩
  · rintro ⟨r1, r2⟩ s' ⟨hr, rfl, _⟩
    simp only at hr
    subst hr
    exact wpAny_pure h
theorem TK.keep {h h' : Heap} {v : Value} {sh : Sh} {S : Addr} {o : Obj} {es : Array (Int × Value)} {ep : Nat} {t : SetTable} (k : TK prog w h v sh) (ho : h.get? S = some o) (hd : o.data = .set es ep t) (hs : Heap.SameBut S h h') : TK prog w h' v sh := by
  obtain ⟨a, rfl, o', items, n, ho', hc, hd', hi⟩ := k
  have hne : a ≠ S := by
    rintro rfl
    obtain rfl : o' = o := Option.some.inj (ho'.symm.trans ho)
    rw [hd] at hd'; exact nomatch hd'
  exact ⟨a, rfl, o', items, n, (hs.2 a hne).trans ho', hc, hd', hi⟩
theorem insert_size {α : Type} (xs : Array α) (p : Nat) (x : α) : (SetTable.insertAt xs p x).size = xs.size + 1 := by
  unfold SetTable.insertAt
  rw [Array.size_append, Array.size_push, Array.size_extract, Array.size_extract, Nat.min_self, Nat.sub_zero]
  rcases Nat.le_total p xs.size with h | h
  · rw [Nat.min_eq_left h, Nat.add_right_comm, Nat.add_sub_cancel' h]
  · rw [Nat.min_eq_right h, Nat.sub_eq_zero_of_le h]
theorem insert_mem {α : Type} {xs : Array α} {p : Nat} {x y : α} (h : y ∈ (SetTable.insertAt xs p x).toList) : y = x ∨ y ∈ xs.toList := by
  unfold SetTable.insertAt at h
  rw [Array.toList_append, Array.toList_push, List.mem_append, List.mem_append] at h
  rcases h with (h | h) | h
  · right
    rw [← Array.mem_def] at h ⊢
    obtain ⟨i, hi, e⟩ := Array.mem_iff_getElem.mp h
    rw [Array.getElem_extract] at e
    rw [← e]; exact Array.getElem_mem _
  · left; simpa using h
  · right
    rw [← Array.mem_def] at h ⊢
    obtain ⟨i, hi, e⟩ := Array.mem_iff_getElem.mp h
    rw [Array.getElem_extract] at e
    rw [← e]; exact Array.getElem_mem _
theorem stored {h : Heap} {S : Addr} {o : Obj} {es es' : Array (Int × Value)} {ep : Nat} {t t' : SetTable} (ho : h.get? S = some o) (hd : o.data = .set es ep t) : (h.update S (Obj.putSet es' t')).get? S = some { o with data := .set es' (ep + 1) t' } := by
  have := Heap.get?_update_self (Obj.putSet es' t') ho (by rw [putSet_of es' t' hd]; rfl)
  rw [putSet_of es' t' hd] at this; exact this
theorem relay_set {S : Addr} {zs : List Sh} {es : Array (Int × Value)} {t : SetTable} {o : Obj} {ep : Nat} (ho : s.heap.get? S = some o) (hex : o.ExactSet) (hd : o.data = .set es ep t) (hp : t.place.size = es.size) (hdu : t.dummies = #[]) (hm : t.mask = 7) (h5 : es.size = 5) (hof : ∀ e ∈ es.toList, ∃ sh ∈ zs, TK prog w s.heap e.2 sh)
    {Q : Unit → Shared → Prop} (h : ∀ h' es' t', Heap.SameBut S s.heap h' → SetSt prog w h' S zs es' t' → es'.size = 5 → Q () { s with heap := h' }) : wpAny (model prog w) A (setRelay S (SetTable.grown es.size)) Q E s := by
  unfold setRelay
  have hf : t.fits es.size = true := by
    unfold SetTable.fits SetTable.fill
    rw [hp, hdu, hm, h5]; rfl
  refine wpAny_bind (wpAny_setState_of ho hd hf ?_)
  dsimp only
  have hg : SetTable.sizeAbove (SetTable.grown es.size) = 32 := by rw [h5]; decide +kernel
  rw [hg, if_neg (by rw [sizeLine_eq]; decide)]
  obtain ⟨t', order, e, m1, m2, m3, m4, m5, m6⟩ := laid_some (hs := es.map (·.1)) (by rw [Array.size_map, h5]; decide) t.finger (t.movedTo 31) t.led t.plain
  have er : t.relaid (es.map (·.1)) (SetTable.grown es.size) = some (t', order) := by
    unfold SetTable.relaid
    rw [hg]; exact e
  rw [er]
  rw [Array.size_map] at m3 m6
  have pm := pick_perm2 (es := es) m6
  have hz : (order.filterMap (es[·]?)).size = es.size := by rw [← Array.length_toList, pm.length_eq, Array.length_toList]
  refine wpAny_bind (wpAny_of_eq (a := (order.filterMap (es[·]?), t')) ?_ ?_)
  · show (if ((order.filterMap (es[·]?)).size != es.size) = true then _ else _) = _
    rw [if_neg (by rw [hz]; simp)]
  refine wpAny_storeSet_of ho hd ?_ (by rw [hz, h5, sizeLine_eq]; decide)
  have hs := Heap.SameBut.update s.heap S (Obj.putSet (order.filterMap (es[·]?)) t')
  refine h _ _ _ hs ⟨⟨_, _, stored ho hd, hex, rfl⟩, by rw [m3, hz], m2, .inr ⟨m1, by rw [hz, h5]; exact Nat.le_refl _, by rw [hz, h5]; decide⟩, fun x hx => ?_⟩ (by rw [hz, h5])
  obtain ⟨sh, hsh, k⟩ := hof x (pm.mem_iff.mp hx)
  exact ⟨sh, hsh, k.keep ho hd hs⟩
theorem room_after {k n : Nat} (h : k = 7 ∧ n ≤ 4 ∨ k = 31 ∧ 5 ≤ n ∧ n < 19) (h18 : n < 18) (no : ¬(k = 7 ∧ n = 4)) : ¬(n + 1) * 5 ≥ k * 3 ∧ (k = 7 ∧ n + 1 ≤ 4 ∨ k = 31 ∧ 5 ≤ n + 1 ∧ n + 1 < 19) := by
  rcases h with ⟨rfl, h4⟩ | ⟨rfl, h5, _⟩
  · have lt := Nat.lt_of_le_of_ne h4 fun e => no ⟨rfl, e⟩
    exact ⟨Nat.not_le_of_gt (Nat.lt_of_le_of_lt (Nat.mul_le_mul_right 5 lt) (by decide)), .inl ⟨rfl, lt⟩⟩
  · exact ⟨Nat.not_le_of_gt (Nat.lt_of_le_of_lt (Nat.mul_le_mul_right 5 h18) (by decide)), .inr ⟨rfl, Nat.le_succ_of_le h5, Nat.succ_lt_succ h18⟩⟩
theorem add_set {S : Addr} {zs : List Sh} {es : Array (Int × Value)} {t : SetTable} (hu : A.units < cLine) (I : SetSt prog w s.heap S zs es t) {x : Value} {sx : Sh} (hx : TK prog w s.heap x sx) (hn : sx ∉ zs) (h18 : es.size < 18) (hs : Int) {Q : Bool → Shared → Prop}
    (h : ∀ h' es' t', Heap.SameBut S s.heap h' → SetSt prog w h' S (sx :: zs) es' t' → es'.size = es.size + 1 → Q true { s with heap := h' }) : wpAny (model prog w) A (setAddHashed S x hs) Q E s := by
  obtain ⟨o, ep, ho, hex, hdat⟩ := I.obj
  obtain ⟨a, rfl, ka⟩ := hx
  have hx : TK prog w s.heap (.ref a) sx := ⟨a, rfl, ka⟩
  unfold setAddHashed setAddHashedIn
  refine wpAny_holding (wpAny_bind (wpAny_setState_of ho hdat I.fits ?_))
  dsimp only
  have hb : byScan (.ref a) es = false := rfl
  rw [hb]
  refine if_ff ?_
  obtain ⟨j, hj, hjn⟩ := pigeon (t.mask + 1) t.place.toList (by rw [Array.length_toList, I.place]; have := I.mask; omega)
  obtain ⟨n, hnz, hne⟩ := adv_hit (t := t) I.m7 (p := t.probeStart hs) (run_end _ _) (bits_lt hs) (k := j) (by omega)
  have hz : n < 100000 := by
    have : SetTable.turns t.mask ≤ 46 := by unfold SetTable.turns; rcases I.m7 with e | e <;> omega
    omega
  refine wpAny_bind ?_
  unfold setSearch
  refine search_free hu I hx hn hs (fun slot => ?_) n 100000 none (t.probeStart hs) rfl hz hnz rfl (by rw [hne]; exact slot_empty I.dum hjn)
  dsimp only
  refine wpAny_bind (wpAny_setState_of ho hdat I.fits ?_)
  dsimp only
  refine if_both true (fun _ hR => hash_val ka hR) (fun _ hR => wpAny_pure hR) ?_
  rw [if_pos rfl]
  have p1 : (t.put slot).1.place.size = es.size + 1 := by
    show (SetTable.insertAt t.place _ slot).size = _
    rw [insert_size, I.place]
  have d1 : (t.put slot).1.dummies = #[] := by
    show (if SetTable.has t.dummies slot = true then _ else t.dummies) = #[]
    rw [I.dum]; rfl
  have m1 : (t.put slot).1.mask = t.mask := rfl
  generalize (t.put slot).1 = t1 at p1 d1 m1 ⊢
  have z1 := insert_size es (t.put slot).2 (hs, Value.ref a)
  have mem := fun y => insert_mem (xs := es) (p := (t.put slot).2) (x := (hs, Value.ref a)) (y := y)
  generalize SetTable.insertAt es (t.put slot).2 (hs, Value.ref a) = es1 at z1 mem ⊢
  refine wpAny_bind (wpAny_storeSet_of ho hdat ?_ (by rw [z1, sizeLine_eq]; omega))
  have sb := Heap.SameBut.update s.heap S (Obj.putSet es1 t1)
  have st := stored (es' := es1) (t' := t1) ho hdat
  have of1 : ∀ e ∈ es1.toList, ∃ sh ∈ sx :: zs, TK prog w (s.heap.update S (Obj.putSet es1 t1)) e.2 sh := fun e he => by
    rcases mem e he with rfl | he
    · exact ⟨sx, .head _, hx.keep ho hdat sb⟩
    · obtain ⟨sh, hsh, k⟩ := I.of e he
      exact ⟨sh, .tail _ hsh, k.keep ho hdat sb⟩
  have full : t1.tooFull = decide ((es.size + 1) * 5 ≥ t.mask * 3) := by
    unfold SetTable.tooFull SetTable.fill
    rw [p1, d1, m1]; rfl
  rw [full]
  by_cases h44 : t.mask = 7 ∧ es.size = 4
  · obtain ⟨m7, h4⟩ := h44
    have e : (!false && decide ((es.size + 1) * 5 ≥ t.mask * 3)) = true := by rw [h4, m7]; rfl
    rw [if_pos e, ← z1]
    refine wpAny_bind (relay_set (s := { s with heap := s.heap.update S (Obj.putSet es1 t1) }) (zs := sx :: zs) st hex rfl (by rw [p1, z1]) d1 (by rw [m1, m7]) (by rw [z1, h4]) of1 fun h' es' t' sb' I' z' => ?_)
    exact wpAny_pure (h h' es' t' (sb.trans sb') I' (by rw [z', h4]))
  · obtain ⟨e, mk⟩ := room_after I.mask h18 h44
    rw [if_neg (by rw [Bool.not_false, Bool.true_and, decide_eq_true_eq]; exact e)]
    exact wpAny_pure (h _ es1 t1 sb ⟨⟨_, _, st, hex, rfl⟩, by rw [p1, z1], d1, by rw [m1, z1]; exact mk, of1⟩ z1)
end
end Mine
end
section
open PySem PySem.W PySem.Calls PyProof.Rows PySem.Spec
namespace Mine
section
variable {prog : Program} {w : World} {A : Around} {E : Value → Shared → Prop} {s : Shared} {R : Result → Shared → Prop}
theorem SetSt.weak {h : Heap} {S : Addr} {zs zs' : List Sh} {es : Array (Int × Value)} {t : SetTable} (I : SetSt prog w h S zs es t) (hz : ∀ z ∈ zs, z ∈ zs') : SetSt prog w h S zs' es t :=
  ⟨I.obj, I.place, I.dum, I.mask, fun e he => let ⟨sh, h1, h2⟩ := I.of e he; ⟨sh, hz sh h1, h2⟩⟩
theorem TK.keep2 {h h' : Heap} {v : Value} {sh : Sh} {I l : Addr} {i : Nat} (k : TK prog w h v sh) (hi : h.IsListIter I l i) (hk : ∀ b o, b ∉ [I] → h.get? b = some o → h'.get? b = some o) : TK prog w h' v sh := by
  obtain ⟨a, rfl, o', items, n, ho', hc, hd', hit⟩ := k
  obtain ⟨o, ho, hcl, _⟩ := hi
  have hne : a ≠ I := by
    rintro rfl
    obtain rfl : o' = o := Option.some.inj (ho'.symm.trans ho)
    rw [hc] at hcl
    simp at hcl
  exact ⟨a, rfl, o', items, n, hk _ _ (by simpa using hne) ho', hc, hd', hit⟩
theorem SetSt.keep2 {h h' : Heap} {S : Addr} {zs : List Sh} {es : Array (Int × Value)} {t : SetTable} {I l : Addr} {i : Nat} (J : SetSt prog w h S zs es t) (hi : h.IsListIter I l i) (hSI : S ≠ I) (hk : ∀ b o, b ∉ [I] → h.get? b = some o → h'.get? b = some o) : SetSt prog w h' S zs es t := by
  obtain ⟨o, ep, ho, hex, hd⟩ := J.obj
  exact ⟨⟨o, ep, hk _ _ (by simpa using hSI) ho, hex, hd⟩, J.place, J.dum, J.mask, fun e he => let ⟨sh, h1, h2⟩ := J.of e he; ⟨sh, h1, h2.keep2 hi hk⟩⟩
theorem loopT (hu : A.in1.units < cLine) (hh : A.in1.handled = none) {S I l : Addr} (hIl : l ≠ I) (hSI : S ≠ I) (hSl : S ≠ l) {items : Array Value} {ss : List Sh} (hlen : items.size = ss.length) (h18 : ss.length ≤ 18) (nd : ss.Nodup) :
    ∀ (k i : Nat) (s : Shared) (es : Array (Int × Value)) (t : SetTable), items.size - i = k → i ≤ items.size → s.heap.IsListIter I l i → s.heap.IsList l items → (∀ (j : Nat) (v : Value) (sh : Sh), items[j]? = some v → ss[j]? = some sh → TK prog w s.heap v sh) → SetSt prog w s.heap S (ss.take i) es t → es.size = i →
      (∀ h' tk es t, (∀ b o, b ≠ S → b ≠ I → s.heap.get? b = some o → h'.get? b = some o) → SetSt prog w h' S ss es t → es.size = ss.length → R (.ok (.ret .none)) { s with heap := h', toks := tk }) →
      codeAny (model prog w) A (.builtin "set.update.loop" ⟨[.ref S, .ref I], []⟩) R s := by
  intro k
  induction k with
  | zero =>
    intro i s es t hk hi hit hli hT J hz hR
    obtain rfl : i = items.size := Nat.le_antisymm hi (Nat.le_of_sub_eq_zero hk)
    refine codeAny_builtin PyProof.Rows.F.entry_set_update_loop ?_
    rw [Around.under_plainId PyProof.Rows.F.plain_set_update_loop _]
    show wpAny _ A.in1 (pyNext (.ref I) >>= _) _ _ s
    refine wpAny_bind ((Walks.list hh I l hIl items).done s _ _ ⟨hit, hli⟩ fun h₂ tk₂ hk₂ => ?_)
    show wpAny _ A.in1 (ret Value.none) _ _ _
    refine wpAny_pure (hR h₂ tk₂ es t (fun b o _ hb2 e => hk₂ b o (by simpa using hb2) e) ?_ (by rw [hz, hlen]))
    have J2 := J.keep2 hit hSI hk₂
    rw [hlen, List.take_length] at J2
    exact J2
  | succ k ih =>
    intro i s es t hk hi hit hli hT J hz hR
    have hlt : i < items.size := Nat.lt_of_sub_eq_succ hk
    refine codeAny_builtin PyProof.Rows.F.entry_set_update_loop ?_
    rw [Around.under_plainId PyProof.Rows.F.plain_set_update_loop _]
    show wpAny _ A.in1 (pyNext (.ref I) >>= _) _ _ s
    refine wpAny_bind ((Walks.list hh I l hIl items).item i s _ _ hlt ⟨hit, hli⟩ fun v h₂ tk₂ hP hst₂ hk₂ => ?_)
    have hls : i < ss.length := hlen ▸ hlt
    have hsi : ss[i]? = some ss[i] := List.getElem?_eq_getElem hls
    have kv : TK prog w h₂ v ss[i] := (hT i v _ hP hsi).keep2 hit hk₂
    have J2 := J.keep2 hit hSI hk₂
    obtain ⟨o, ep, ho, hex, hd⟩ := J2.obj
    obtain ⟨a, rfl, ka⟩ := id kv
    show wpAny _ A.in1 (holding [Value.ref a] (setAdd S (.ref a)) >>= _) _ _ _
    refine wpAny_bind (wpAny_holding ?_)
    unfold setAdd
    refine wpAny_holding ?_
    refine wpAny_bind (wpAny_pyHash_tuple (s := { s with heap := h₂, toks := tk₂ }) hu ka ?_)
    have hnew : ss[i] ∉ ss.take i := by
      intro hm
      obtain ⟨j, hj, e⟩ := List.mem_iff_getElem.mp hm
      rw [List.length_take] at hj
      rw [List.getElem_take] at e
      have pw := List.pairwise_iff_getElem.mp nd
      exact pw j i (Nat.lt_of_lt_of_le hj (Nat.min_le_right _ _)) hls (Nat.lt_of_lt_of_le hj (Nat.min_le_left _ _)) e
    refine add_set (s := { s with heap := h₂, toks := tk₂ + (_ + 1) }) hu J2 kv hnew (by rw [hz]; exact Nat.lt_of_lt_of_le hls h18) _ fun h₃ es3 t3 hs3 J3 z3 => ?_
    refine wpAny_pure ⟨plainId_quiet PyProof.Rows.F.plain_set_update_loop _, ih (i + 1) _ es3 t3 (by rw [Nat.sub_succ, hk]; rfl) hlt ?_ ?_ (fun j v' sh hv' hsh => ((hT j v' sh hv' hsh).keep2 hit hk₂).keep ho hd hs3) (J3.weak fun z hz => ?_) (by rw [z3, hz]) fun h' tk es' t' keep J' z' => ?_⟩
    · obtain ⟨oi, e1, e2⟩ := hst₂.1
      exact ⟨oi, (hs3.2 I (Ne.symm hSI)).trans e1, e2⟩
    · obtain ⟨oi, e1, e2⟩ := hst₂.2
      exact ⟨oi, (hs3.2 l (Ne.symm hSl)).trans e1, e2⟩
    · rw [List.take_add_one, hsi]
      rcases List.mem_cons.mp hz with rfl | hz
      · exact List.mem_append.mpr (.inr (.head _))
      · exact List.mem_append.mpr (.inl hz)
    · exact hR h' tk es' t' (fun b o hb1 hb2 e => keep b o hb1 hb2 ((hs3.2 b hb1).trans (hk₂ b o (by simpa using hb2) e))) J' z'
end
end Mine
end
section
open PySem PySem.W PySem.Calls PyProof.Rows PySem.Spec
namespace Mine
section
variable {prog : Program} {w : World} {A : Around} {E : Value → Shared → Prop} {s : Shared}
theorem fresh_set {h : Heap} {S : Addr} {led : Bool} (hg : h.get? S = some { cls := .type "set", dict := none, data := .set #[] 0 (.fresh 0 0 led) }) : SetSt prog w h S [] #[] (.fresh 0 0 led) :=
  ⟨⟨_, _, hg, ⟨rfl, rfl, rfl⟩, rfl⟩, rfl, rfl, .inl ⟨rfl, by decide⟩, fun e he => by simp at he⟩
theorem of_wants {M : Model} {c : Code} {R : Result → Shared → Prop} (h : codeAny M A c (wants (fun v s' => R (.ok (.ret v)) s') E) s) (hE : ∀ e s', E e s' → R (.error e) s') : codeAny M A c R s :=
  codeAny_mono h fun r s' hr => match r with
    | .error _ => hE _ _ hr
    | .ok (.ret _) => hr
    | .ok .next => hr.elim
    | .ok .brk => hr.elim
    | .ok .cont => hr.elim
theorem init9 {S l : Addr} {items : Array Value} {ss : List Sh} {Q : PySem.Fin → Shared → Prop} {led : Bool} {odict : Option Addr} {nl : Nat} {osl : Array (Option Value)} (hh : A.handled = none) (hu : A.units + 4 < cLine) (hS : s.heap.get? S = some { cls := .type "set", dict := none, data := .set #[] 0 (.fresh 0 0 led) }) (hol : s.heap.get? l = some { cls := .type "list", dict := odict, data := .seq items nl, slots := osl }) (hlS : l < S) (hSs : s.heap.objs.size = S + 1) (hlen : items.size = ss.length) (h18 : ss.length ≤ 18) (nd : ss.Nodup)
    (hT : ∀ (j : Nat) (v : Value) (sh : Sh), items[j]? = some v → ss[j]? = some sh → TK prog w s.heap v sh)
    (h : ∀ h' tk es t, SetSt prog w h' S ss es t → es.size = ss.length → (∀ b o, b < S → s.heap.get? b = some o → h'.get? b = some o) → Q (.done (.ret .none)) { s with heap := h', toks := tk }) :
    wpAny (model prog w) A (Builtin.«set.__init__» { pos := [Value.ref S, Value.ref l] }) Q E s := by
  have hsls := F.sub_list_set
  have hslf := F.sub_list_frozenset
  have hne : (Value.type "list" == Value.type "dict") = false := by decide
  unfold Builtin.«set.__init__» noKeywords Builtin.Frozenset.updateFrom
  generalize hPI : pyIter = PI
  wp_walk
  subst hPI
  have hl : s.heap.IsList l items := ⟨_, hol, rfl, nl, rfl⟩
  refine wpAny_pyIter_list hl (wpAny_bind (wpAny_runValue ?_))
  have up : ∀ b o, s.heap.get? b = some o → (s.heap.push { cls := .type "list_iterator", data := .fields #[.ref l, .int 0 0] }).get? b = some o := fun b o e => Heap.get?_push_of_some _ e
  have n1 : s.heap.objs.size ≠ l := by rw [hSs]; exact Nat.ne_of_gt (Nat.lt_succ_of_lt hlS)
  have n2 : s.heap.objs.size ≠ S := by rw [hSs]; exact Nat.ne_of_gt (Nat.lt_succ_self _)
  refine loopT (S := S) (I := s.heap.objs.size) (l := l) (items := items) (ss := ss) (show A.units + 1 < cLine from Nat.lt_of_le_of_lt (Nat.add_le_add_left (by decide) _) hu) hh n1.symm n2.symm (Nat.ne_of_gt hlS) hlen h18 nd (items.size - 0) 0 _ #[] (.fresh 0 0 led) rfl (Nat.zero_le _)
    ⟨_, Heap.get?_push_size _ rfl, rfl, rfl⟩ (hl.push _) (fun j v sh hv hsh => ?_) (fresh_set (up _ _ hS)) rfl fun h' tk es t keep J z => ?_
  · obtain ⟨a, e, o, it, n, g, r⟩ := hT j v sh hv hsh
    exact ⟨a, e, o, it, n, up _ _ g, r⟩
  · exact wpAny_pure (wpAny_pure (h h' tk es t J z fun b o hb e => keep b o (Nat.ne_of_lt hb) (Nat.ne_of_lt (by rw [hSs]; exact Nat.lt_succ_of_lt hb)) (up _ _ e)))
theorem set_made {l : Addr} {items : Array Value} {ss : List Sh} {Q : Value → Shared → Prop} (hh : A.handled = none) (hu : A.units + 8 < cLine) (hl : s.heap.IsList l items) (hlen : items.size = ss.length) (h18 : ss.length ≤ 18) (nd : ss.Nodup)
    (hT : ∀ (j : Nat) (v : Value) (sh : Sh), items[j]? = some v → ss[j]? = some sh → TK prog w s.heap v sh)
    (h : ∀ h' tk es t, SetSt prog w h' s.heap.objs.size ss es t → es.size = ss.length → (∀ b o, b < s.heap.objs.size → s.heap.get? b = some o → h'.get? b = some o) → Q (.ref s.heap.objs.size) { s with heap := h', toks := tk }) :
    wpAny (model prog w) A (call (.type "set") [.ref l]) Q E s := by
  have call_type := F.called_set
  obtain ⟨_, _, mro⟩ := call_type.mro
  have typeCall := F.typeCall_set_1 (.ref l)
  have made := call_type.made
  have sub := call_type.sub
  have plain := call_type.notType
  have can := call_type.canCreate
  refine wpAny_call (codeAny_of_tree (wpAny_pure ⟨Code.quiet_builtin _ (by decide +kernel), codeAny_builtin F.entry_type_call ?_⟩))
  rw [Around.under_plain (weight_type_call_type "set" [.ref l] []) rfl]
  clear call_type
  repeat (any_goals (first | assumption | wp_step))
  refine of_wants (code_set_new_1 (.ref l) fun led => ?_) fun _ _ h => h
  obtain ⟨⟨_, odict, _, oslots⟩, hol, rfl, nl, rfl⟩ := hl
  have up : ∀ b o, s.heap.get? b = some o → (s.heap.push { cls := .type "set", dict := none, data := .set #[] 0 (.fresh 0 0 led) }).get? b = some o := fun b o e => Heap.get?_push_of_some _ e
  have hS : (s.heap.push { cls := .type "set", dict := none, data := .set #[] 0 (.fresh 0 0 led) }).get? s.heap.objs.size = some { cls := .type "set", dict := none, data := .set #[] 0 (.fresh 0 0 led) } := Heap.get?_push_size _ rfl
  have hSs := Heap.size_push s.heap { cls := .type "set", dict := none, data := .set #[] 0 (.fresh 0 0 led) }
  generalize s.heap.push { cls := .type "set", dict := none, data := .set #[] 0 (.fresh 0 0 led) } = hp at up hS hSs ⊢
  have hTy : Shared.TypeIs { s with heap := hp } (.ref s.heap.objs.size) "set" := ⟨_, hS, rfl⟩
  have hli := F.called_set.init.lookup
  have hbi := F.called_set.init.bind (.ref s.heap.objs.size)
  repeat (any_goals (first | assumption | wp_step))
  refine of_wants (codeAny_call_builtin F.called_set.init.plain F.entry_set_init (check_set_init_1 hTy (init9 hh (show A.units + 6 < cLine from Nat.lt_of_le_of_lt (Nat.add_le_add_left (by decide) _) hu) hS (up _ _ hol) (Heap.lt_size hol) hSs hlen h18 nd (fun j v sh hv hsh => ?_) fun h' tk es t J z keep => ?_))) fun _ _ h => h
  · obtain ⟨a, e, o, it, n, g, r⟩ := hT j v sh hv hsh
    exact ⟨a, e, o, it, n, up _ _ g, r⟩
  · repeat (any_goals (first | assumption | wp_step))
    exact h _ _ _ _ J z fun b o hb e => keep b o hb (up _ _ e)
end
end Mine
namespace Mine
noncomputable def SetN (n : Nat) (o : Obj) : Prop := ∃ es ep t, o.ExactSet ∧ o.data = .set es ep t ∧ t.fits es.size = true ∧ es.size = n
section
variable {prog : Program} {w : World} {A : Around} {E : Value → Shared → Prop} {s : Shared} {h₀ : Heap} {L l : Addr} {m : Str → Option Value} {news : List (Addr × Obj)} {vs : List Value} {ss : List Sh}
theorem FAll.get {i : Nat} {v : Value} {sh : Sh} (h : FAll news vs ss) (hv : vs[i]? = some v) (hs : ss[i]? = some sh) : FIn news v sh := by
  induction h generalizing i with
  | nil => simp at hv
  | cons a _ ih =>
    cases i with
    | zero => simp at hv hs; subst hv; subst hs; exact a
    | succ i => exact ih (by simpa using hv) (by simpa using hs)
theorem setF {Q : Value → Shared → Prop} (F : Fr h₀ L s.heap m) (N : News h₀ L s.heap news) (hl : s.heap.IsList l vs.toArray) (hA : FAll news vs ss) (nd : ss.Nodup) (h18 : ss.length ≤ 18) (hh : A.handled = none) (hu : A.units + 8 < cLine)
    (h : ∀ D h' tk o, Fr h₀ L h' m → News h₀ L h' ((D, o) :: news) → (∀ q ∈ news, q.1 < D) → SetN ss.length o → Q (.ref D) { s with heap := h', toks := tk }) :
    wpAny (model prog w) A (call (.type "set") [.ref l]) Q E s := by
  refine set_made hh hu hl (ss := ss) (by rw [List.size_toArray, hA.length]) h18 nd (fun j v sh hv hsh => tk_of N (hA.get (by simpa using hv) hsh)) fun h' tk es t J z keep => ?_
  obtain ⟨o, ep, ho, hex, hd⟩ := J.obj
  have hL : L < s.heap.objs.size := F.ns.lt
  obtain ⟨oL, eL, pL, hgL, rL⟩ := F.ns
  refine h _ h' tk o ⟨⟨oL, eL, pL, keep _ _ hL hgL, rL⟩, fun b o e => keep b o (Heap.lt_size (F.keep b o e)) (F.keep b o e), F.above⟩ (fun p hp => ?_) (fun q hq => Heap.lt_size (N q hq).1) ⟨es, ep, t, hex, hd, J.fits, z⟩
  rcases List.mem_cons.mp hp with rfl | hp
  · exact ⟨ho, Nat.ne_of_gt hL, Heap.get?_none_of_le (Nat.le_trans F.above (Nat.le_of_lt hL))⟩
  · exact ⟨keep _ _ (Heap.lt_size (N p hp).1) (N p hp).1, (N p hp).2⟩
theorem len_set9 {D : Addr} {o : Obj} {n : Nat} {Q : Value → Shared → Prop} (N : News h₀ L s.heap news) (hm : (D, o) ∈ news) (H : SetN n o) (hn : n < 1000) (h : ∀ t tk, Q (.int n t) { s with toks := tk }) : wpAny (model prog w) A (call (.builtin "len") [.ref D]) Q E s := by
  obtain ⟨es, ep, t, hex, hd, hf, rfl⟩ := H
  exact call_len_set (N _ hm).1 hex hd hf (by omega) (h _ _)
end
end Mine
end
section
open PySem PySem.W PySem.Calls PyProof.Rows PySem.Spec
namespace Mine
section
variable {prog : Program} {w : World} {A : Around} {s : Shared} {h₀ : Heap} {L : Addr} {m : Str → Option Value} {env : Env} {elt : Expr} {x : Str} {scope : Scope} {cl : List (Str × Addr)} {S : List (Addr × Obj) → Prop} {P : Nat → Value → Prop} {Fin : List Value → List (Addr × Obj) → Prop}
theorem comp_run {n : Nat} (J : Nat → List Value → List (Addr × Obj) → Prop)
    (turn : ∀ i v ys news I oI C oC D m₂ h tk (E' : Value → Shared → Prop), i < n → P i v → J i ys news → LCg.NsObj oC m₂ → m₂ x = some v → Fr h₀ L h m → News h₀ L h ((I, oI) :: (C, oC) :: (D, LCg.lst ys) :: news) → LCg.Off3 I C D news → ((@Ne Nat I C) ∧ (@Ne Nat I D) ∧ (@Ne Nat C D)) →
      wpAny (model prog w) A (eval elt (compEnvC scope cl C env)) (LCg.CompEnd h₀ L m { s with heap := h, toks := tk } I oI C oC D (LCg.lst ys) S (fun y news' => J (i + 1) (ys ++ [y]) news')) E' { s with heap := h, toks := tk })
    (fin : ∀ ys news, J n ys news → Fin ys news) : ∀ k i ys news, k + i = n → J i ys news → LCg.CompRest prog w A h₀ L m env elt x scope cl s S P Fin k i ys news
  | 0, i, ys, news, e, hJ => by
    have e : i = n := by omega
    subst e
    exact LCg.CompRest.zero (fin ys news hJ)
  | k + 1, i, ys, news, e, hJ => by
    refine LCg.CompRest.succ fun v I oI C oC D m₂ h tk E' hP hC hx F N off ne => ?_
    refine wpAny_mono (turn i v ys news I oI C oC D m₂ h tk E' (by omega) hP hJ hC hx F N off ne) (fun y s₂ hy => ?_) fun _ _ q => q
    obtain ⟨h', tk', news', e', F', N', off', hS, hr⟩ := hy
    exact ⟨h', tk', news', e', F', N', off', hS, comp_run J turn fin k (i + 1) (ys ++ [y]) news' (by omega) hr⟩
theorem comp_end {I C D : Addr} {oI oC oD : Obj} {rest : Value → List (Addr × Obj) → Prop} {y : Value} {h' : Heap} {tk : Nat} {news led : List (Addr × Obj)} (ad : List (Addr × Obj)) (F : Fr h₀ L h' m) (N : News h₀ L h' led)
    (e1 : (I, oI) ∈ led) (e2 : (C, oC) ∈ led) (e3 : (D, oD) ∈ led) (hn : ∀ p ∈ news, p ∈ led) (ha : ∀ p ∈ ad, p ∈ led) (off : LCg.Off3 I C D news) (offa : ∀ p ∈ ad, I < p.1 ∧ C < p.1 ∧ D < p.1) (hS : S (ad ++ news)) (hr : rest y (ad ++ news)) :
    LCg.CompEnd h₀ L m s I oI C oC D oD S rest y { s with heap := h', toks := tk } := by
  refine LCg.CompEnd.intro F N (ad ++ news) (fun p hp => ?_) (LCg.Off3.of fun p hp => ?_) hS hr
  · rcases List.mem_cons.mp hp with rfl | hp
    · exact e1
    · rcases List.mem_cons.mp hp with rfl | hp
      · exact e2
      · rcases List.mem_cons.mp hp with rfl | hp
        · exact e3
        · exact (List.mem_append.mp hp).elim (ha p) (hn p)
  · rcases List.mem_append.mp hp with hp | hp
    · obtain ⟨a, b, c⟩ := offa p hp
      exact ⟨Nat.ne_of_gt a, Nat.ne_of_gt b, Nat.ne_of_gt c⟩
    · exact off.mem p hp
theorem off_one {I C D T : Addr} {o : Obj} (h : @LT.lt Nat _ I T ∧ @LT.lt Nat _ C T ∧ @LT.lt Nat _ D T) : ∀ p ∈ [(T, o)], I < p.1 ∧ C < p.1 ∧ D < p.1 := fun p hp => by rw [List.mem_singleton.mp hp]; exact h
theorem off_nil {I C D : Addr} : ∀ p ∈ ([] : List (Addr × Obj)), I < p.1 ∧ C < p.1 ∧ D < p.1 := fun _ h => nomatch h
theorem src_led {ax : Addr} {its : Array Value} {n : Nat} {news : List (Addr × Obj)} (h : (ax, W.listOf its n) ∈ news) : LCg.SrcAt h₀ ax its news := .inr ⟨_, h, rfl, _, rfl⟩
end
theorem apart {h₀ h : Heap} {L : Addr} {news : List (Addr × Obj)} {o : Obj} (N : News h₀ L h news) (ht : (422, o) ∈ news) : ∃ news', News h₀ L h ((422, o) :: news') ∧ UpdF 422 o ((422, o) :: news') (fun o' => (422, o') :: news') ∧ (∀ p ∈ news, p.1 ≠ 422 → p ∈ news') ∧ (∀ p ∈ news', p ∈ news) := by
  refine ⟨news.filter (fun p => decide (p.1 ≠ 422)), fun p hp => ?_, .head fun p hp => ?_, fun p hp hn => List.mem_filter.mpr ⟨hp, decide_eq_true hn⟩, fun p hp => (List.mem_filter.mp hp).1⟩
  · rcases List.mem_cons.mp hp with rfl | hp
    · exact N _ ht
    · exact N p (List.mem_filter.mp hp).1
  · exact of_decide_eq_true (List.mem_filter.mp hp).2
theorem not_tab {h₀ h : Heap} {L : Addr} {news : List (Addr × Obj)} {ps : Array Value} {p : Addr × Obj} (N : News h₀ L h news) (ht : (422, tabObj ps) ∈ news) (hp : p ∈ news) (hc : p.2.cls ≠ .none) : p.1 ≠ 422 := fun e => by
  have h1 := (N _ hp).1
  have h2 := (N _ ht).1
  rw [e, h2] at h1
  have := Option.some.inj h1
  rw [← this] at hc
  exact hc rfl
theorem MemIn.apart {P : Params} {h₀ h : Heap} {L : Addr} {news news' : List (Addr × Obj)} {ps : Array Value} {v : Value} {b i sc wo sz : Int} {sg nm : Str} (N : News h₀ L h news) (ht : (422, tabObj ps) ∈ news) (hs : ∀ p ∈ news, p.1 ≠ 422 → p ∈ news') (hm : MemIn P news v b i sc wo sz sg nm) : MemIn P news' v b i sc wo sz sg nm := by
  have reg : ∀ {v : Value} {b : Int}, RegIn P news v b → RegIn P news' v b := fun {v b} r => by
    cases r with
    | none => exact .none
    | rip a c => exact .rip (hs _ a (not_tab N ht a (by simp [instObj]))) (hs _ c (not_tab N ht c (by simp [dictOf])))
    | gpr b x y a c => exact .gpr b x y (hs _ a (not_tab N ht a (by simp [instObj]))) (hs _ c (not_tab N ht c (by simp [dictOf])))
  cases hm with
  | mk a c d e => exact .mk (hs _ a (not_tab N ht a (by simp [instObj]))) (hs _ c (not_tab N ht c (by simp [dictOf]))) (reg d) (reg e)
theorem sorted_same {α : Type} {r : α → α → Bool} (as : ∀ a b, r a b = true → r b a = true → False) : ∀ {x y : List α}, x.Perm y → x.Pairwise (fun a b => r a b = true) → y.Pairwise (fun a b => r a b = true) → x = y
  | [], y, p, _, _ => (List.nil_perm.mp p).symm
  | a :: x, [], p, _, _ => absurd p.length_eq (by simp)
  | a :: x, b :: y, p, hx, hy => by
    have hx2 := List.pairwise_cons.mp hx
    have hy2 := List.pairwise_cons.mp hy
    have e : a = b := by
      apply Classical.byContradiction
      intro ne
      have ha : a ∈ y := by
        rcases List.mem_cons.mp (p.mem_iff.mp (.head _)) with q | q
        · exact absurd q ne
        · exact q
      have hb : b ∈ x := by
        rcases List.mem_cons.mp (p.mem_iff.mpr (.head _)) with q | q
        · exact absurd q.symm ne
        · exact q
      exact as a b (hx2.1 b hb) (hy2.1 a ha)
    subst e
    rw [sorted_same as ((List.perm_cons a).mp p) hx2.2 hy2.2]
theorem lexI_as : ∀ (x y : List Int), lexI x y = true → lexI y x = true → False
  | [], _, h, _ => by simp [lexI] at h
  | _ :: _, [], h, _ => by simp [lexI] at h
  | a :: x, b :: y, h, k => by
    unfold lexI at h k
    by_cases e : a = b
    · subst e
      rw [if_pos rfl] at h k
      exact lexI_as x y h k
    · rw [if_neg e] at h
      rw [if_neg (Ne.symm e)] at k
      have h := of_decide_eq_true h
      have k := of_decide_eq_true k
      omega
theorem ltSh_as (a b : Sh) (h : ltSh a b = true) (k : ltSh b a = true) : False := lexI_as _ _ h k
theorem ltKey_as (a b : Sh) (h : ltKey a b = true) (k : ltKey b a = true) : False := by
  unfold ltKey at h k
  have h := of_decide_eq_true h
  have k := of_decide_eq_true k
  omega
end Mine
namespace Mine
noncomputable def Cllx (K : Params → Frag) (V : Program) (TL : List Str) (w : World) (d u : Nat) (qual : Str) (pos : Pos) (f : Addr) (vs : List Value) (G : Heap → Prop) (news : List (Addr × Obj)) : Prop :=
  ∀ (mean : ExcName → Option Value) (mg mb : Str → Option Value) (dp un : Nat) (gd : Option (List Code)) (cn : Str) (cs : Scope) (a : Addr) (ccd : Value) (cl : List (Str × Addr)) (outer : List Env) (A₀ : Around) (base h₀ : Heap) (L : Addr) (m : Str → Option Value) (s : Shared) (Q E : Value → Shared → Prop) (ps : Array Value) (g : Obj → List (Addr × Obj)),
    Below A₀ base outer h₀ → Fr h₀ L s.heap m → (K w.params).In h₀ → News h₀ L s.heap news → UpdF 422 (tabObj ps) news g → TabOk qual pos ps news → Top V TL mean mg mb h₀ → G base → cs.kind = .function →
    dp + d < recursionLimit → un + u < cLine → (∀ h' tk' ps', Fr h₀ L h' m → News h₀ L h' [(422, tabObj ps')] → Q (.bool true) { s with heap := h', toks := tk' }) →
    wpAny (model PySem.Challenge.rw_pb0421_01.row.prog w) (ktrTop dp un gd cn cs L a ccd cl outer) (call (.ref f) vs) Q E s
theorem cllx_use {K : Params → Frag} {V : Program} {TL : List Str} {w : World} {d u : Nat} {qual : Str} {pos : Pos} {f : Addr} {vs : List Value} {G : Heap → Prop} {news : List (Addr × Obj)} (C : Cllx K V TL w d u qual pos f vs G news)
    {mean : ExcName → Option Value} {mg mb : Str → Option Value} {dp un : Nat} {gd : Option (List Code)} {cn : Str} {cs : Scope} {a : Addr} {ccd : Value} {cl : List (Str × Addr)} {outer : List Env} {A₀ : Around} {base h₀ : Heap} {L : Addr} {m : Str → Option Value} {s : Shared} {Q E : Value → Shared → Prop} {ps : Array Value} {g : Obj → List (Addr × Obj)}
    (B : Below A₀ base outer h₀) (F : Fr h₀ L s.heap m) (X : (K w.params).In h₀) (N : News h₀ L s.heap news) (U : UpdF 422 (tabObj ps) news g) (tab : TabOk qual pos ps news) (T : Top V TL mean mg mb h₀) (hg : G base) (hk : cs.kind = .function)
    (hd : dp + d < recursionLimit) (hu : un + u < cLine) (ret : ∀ h' tk' ps', Fr h₀ L h' m → News h₀ L h' [(422, tabObj ps')] → Q (.bool true) { s with heap := h', toks := tk' }) :
    wpAny (model PySem.Challenge.rw_pb0421_01.row.prog w) (ktrTop dp un gd cn cs L a ccd cl outer) (call (.ref f) vs) Q E s :=
  C mean mg mb dp un gd cn cs a ccd cl outer A₀ base h₀ L m s Q E ps g B F X N U tab T hg hk hd hu ret
end Mine
namespace Mine
theorem apart2 {h₀ h : Heap} {L : Addr} {news : List (Addr × Obj)} {ps : Array Value} (N : News h₀ L h news) (ht : (422, tabObj ps) ∈ news) : ∃ R, News h₀ L h ((422, tabObj ps) :: R) ∧ UpdF 422 (tabObj ps) ((422, tabObj ps) :: R) (fun o' => (422, o') :: R) ∧ (∀ p ∈ news, p.1 ≠ 422 → p ∈ R) ∧ (∀ p ∈ news, p.2.cls ≠ .none → p ∈ R) ∧ (∀ p ∈ news, p ∈ (422, tabObj ps) :: R) := by
  obtain ⟨R, a, b, c, d⟩ := apart N ht
  refine ⟨R, a, b, c, fun p hp hc => c p hp (not_tab N ht hp hc), fun p hp => ?_⟩
  by_cases e : p.1 = 422
  · have h1 := (N _ hp).1
    have h2 := (N _ ht).1
    rw [e, h2] at h1
    have e2 := Option.some.inj h1
    obtain ⟨x, y⟩ := p
    dsimp only at e e2
    rw [e, ← e2]; exact .head _
  · exact .tail _ (c p hp e)
theorem opened {P : Params} {h₀ h : Heap} {L : Addr} {q : Str} {pos : Pos} {R : List (Addr × Obj)} {qs : Addr} {vs : Array Value} {ns : Nat} {tls : List (Addr × Obj)} {ps : Array Value} {ss : List Sh} (N : News h₀ L h (((qs, W.listOf vs ns) :: tls) ++ ((422, tabObj ps) :: R))) (tab : TabOk q pos ps (((qs, W.listOf vs ns) :: tls) ++ ((422, tabObj ps) :: R))) (i : ShAll P tls vs.toList ss) :
    ∃ R1, News h₀ L h R1 ∧ TabOk q pos ps R1 ∧ (∀ p ∈ R, p ∈ R1) ∧ (422, tabObj ps) ∈ R1 ∧ (qs, W.listOf vs.toList.toArray ns) ∈ R1 ∧ ShAll P R1 vs.toList ss :=
  ⟨_, N, tab, fun p hp => List.mem_append.mpr (.inr (.tail _ hp)), List.mem_append.mpr (.inr (.head _)), by rw [Array.toArray_toList]; exact .head _, i.mono fun p hp => .tail _ (List.mem_append.mpr (.inl hp))⟩
end Mine
end
section
open PySem PySem.W PyProof.Rows
namespace Mine
noncomputable abbrev okSh (b i sc m rm sib x y wd : Int) : Bool :=
  decide (meaning m rm sib x y = (b, i, sc)) && tidy m rm sib x y && decide (width m rm sib = wd) && (decide (x = 0) || decide (x = 1)) && (decide (y = 0) || decide (y = 1)) && decide (0 ≤ rm) && decide (rm ≤ 7) &&
    (if rm = 4 then decide (0 ≤ sib) && decide (sib < 256) && decide (Int.fmod sib 8 = (if b < 0 then 5 else Int.fmod b 8)) else decide (sib = -1))
noncomputable abbrev ckSh (b i sc wd : Int) : Bool :=
  (decide (wd = 0) && decide (code b = 5)) || (okSh b i sc (modOf wd) 4 (sibOf b i sc) (ext i) (ext b) wd && (needsSib b i || okSh b i sc (modOf wd) (code b) (-1) (ext i) (ext b) wd))
theorem ck_based : (((List.range 16).map Int.ofNat).all fun b => ([0, 1, 4] : List Int).all fun wd => ckSh b (-1) 1 wd && ((List.range 16).map Int.ofNat).all fun i => decide (i = 4) || ([1, 2, 4, 8] : List Int).all fun sc => ckSh b i sc wd) = true := by decide +kernel
theorem ck_none : (okSh (-1) (-1) 1 0 4 (sibOf (-1) (-1) 1) (ext (-1)) 0 4 && ((List.range 16).map Int.ofNat).all fun i => decide (i = 4) || ([1, 2, 4, 8] : List Int).all fun sc => okSh (-1) i sc 0 4 (sibOf (-1) i sc) (ext i) 0 4) = true := by decide +kernel
theorem ck_rip : okSh 16 (-1) 1 0 5 (-1) 0 0 4 = true := by decide +kernel
noncomputable abbrev fwSh (m rm sib x y : Int) : Bool :=
  !(tidy m rm sib x y) || (
    let b := (meaning m rm sib x y).1; let i := (meaning m rm sib x y).2.1; let sc := (meaning m rm sib x y).2.2; let w := width m rm sib
    if b = 16 then decide (m = 0) && decide (rm = 5) && decide (x = 0) && decide (y = 0) && decide (sib = -1) && decide (w = 4)
    else if b = -1 then decide (m = 0) && decide (rm = 4) && decide (x = ext i) && decide (y = 0) && decide (sib = sibOf b i sc) && decide (w = 4)
    else decide (modOf w = m) && decide (ext i = x) && decide (ext b = y) && (decide (w = 0) && !(decide (code b = 5)) || decide (w = 1) || decide (w = 4)) &&
      (decide (rm = 4) && decide (sib = sibOf b i sc) || decide (rm = code b) && decide (sib = -1) && !needsSib b i))
theorem fw_all : (([0, 1, 2] : List Int).all fun m => ([0, 1] : List Int).all fun x => ([0, 1] : List Int).all fun y =>
  (([0, 1, 2, 3, 5, 6, 7] : List Int).all fun rm => fwSh m rm (-1) x y) && ((List.range 256).map Int.ofNat).all fun sib => fwSh m 4 sib x y) = true := by decide +kernel
end Mine
namespace Mine
theorem nodup_of {α β : Type} (f : α → β) : ∀ {l : List α}, (l.map f).Nodup → l.Nodup
  | [], _ => .nil
  | a :: l, h => by
    rw [List.map_cons, List.nodup_cons] at h
    exact List.nodup_cons.mpr ⟨fun q => h.1 (List.mem_map_of_mem q), nodup_of f h.2⟩
section
variable {b i sc wo wd : Int} {named : Bool} {s : Sh}
theorem mem_rng {n : Nat} {b : Int} (h0 : 0 ≤ b) (h : b < n) : b ∈ (List.range n).map Int.ofNat := List.mem_map.mpr ⟨b.toNat, List.mem_range.mpr (by omega), Int.toNat_of_nonneg h0⟩
theorem based_ok (hb : 0 ≤ b ∧ b ≤ 15) (hp : PlOk b i sc) (hw : wd = 0 ∨ wd = 1 ∨ wd = 4) (h5 : wd = 0 → code b ≠ 5) :
    okSh b i sc (modOf wd) 4 (sibOf b i sc) (ext i) (ext b) wd = true ∧ (needsSib b i = false → okSh b i sc (modOf wd) (code b) (-1) (ext i) (ext b) wd = true) := by
  have c := List.all_eq_true.mp ck_based b (mem_rng hb.1 (by omega))
  have c := List.all_eq_true.mp c wd (by rcases hw with rfl | rfl | rfl <;> simp)
  rw [Bool.and_eq_true] at c
  have ck : ckSh b i sc wd = true := by
    rcases hp.2.2 with ⟨rfl, rfl⟩ | ⟨_, h0, h1, h2, h3⟩
    · exact c.1
    · have d := List.all_eq_true.mp c.2 i (mem_rng h0 (by omega))
      rw [Bool.or_eq_true] at d
      rcases d with d | d
      · exact absurd (of_decide_eq_true d) h2
      · exact List.all_eq_true.mp d sc (by rcases h3 with rfl | rfl | rfl | rfl <;> simp)
  unfold ckSh at ck
  rw [Bool.or_eq_true] at ck
  rcases ck with ck | ck
  · rw [Bool.and_eq_true] at ck
    exact absurd (of_decide_eq_true ck.2) (h5 (of_decide_eq_true ck.1))
  · rw [Bool.and_eq_true, Bool.or_eq_true] at ck
    refine ⟨ck.1, fun hn => ?_⟩
    rcases ck.2 with q | q
    · rw [q] at hn; exact nomatch hn
    · exact q
theorem none_ok (hp : PlOk (-1) i sc) : okSh (-1) i sc 0 4 (sibOf (-1) i sc) (ext i) 0 4 = true := by
  have c := ck_none
  rw [Bool.and_eq_true] at c
  rcases hp.2.2 with ⟨rfl, rfl⟩ | ⟨_, h0, h1, h2, h3⟩
  · exact c.1
  · have d := List.all_eq_true.mp c.2 i (mem_rng h0 (by omega))
    rw [Bool.or_eq_true] at d
    rcases d with d | d
    · exact absurd (of_decide_eq_true d) h2
    · exact List.all_eq_true.mp d sc (by rcases h3 with rfl | rfl | rfl | rfl <;> simp)
theorem bears4 : bears 4 wo named = true := by unfold bears; cases named <;> simp
theorem widths_ok (h : wd ∈ widths b wo named) : (wd = 0 ∨ wd = 1 ∨ wd = 4) ∧ (wd = 0 → code b ≠ 5) ∧ bears wd wo named = true := by
  cases named with
  | true =>
    have e : wd = 4 := by simpa [widths] using h
    subst e; exact ⟨.inr (.inr rfl), fun h => absurd h (by decide), bears4⟩
  | false =>
    simp only [widths] at h
    rcases List.mem_append.mp h with h | h
    · split at h
      · rename_i c
        have e : wd = 0 := by simpa using h
        subst e; exact ⟨.inl rfl, fun _ => c.2, by simp [bears, c.1]⟩
      · simp at h
    · rcases List.mem_append.mp h with h | h
      · split at h
        · rename_i c
          have e : wd = 1 := by simpa using h
          subst e; exact ⟨.inr (.inl rfl), fun h => absurd h (by decide), by simp [bears]; omega⟩
        · simp at h
      · have e : wd = 4 := by simpa using h
        subst e; exact ⟨.inr (.inr rfl), fun h => absurd h (by decide), bears4⟩
theorem ok_widths (h1 : wd = 0 ∨ wd = 1 ∨ wd = 4) (h2 : wd = 0 → code b ≠ 5) (h3 : bears wd wo named = true) : wd ∈ widths b wo named := by
  cases named with
  | true =>
    have e : wd = 4 := by simpa [bears] using h3
    subst e; simp [widths]
  | false =>
    simp only [widths]
    rcases h1 with rfl | rfl | rfl
    · have e : wo = 0 := by simpa [bears] using h3
      rw [if_pos ⟨e, h2 rfl⟩]; simp
    · have e : -128 ≤ wo ∧ wo ≤ 127 := by simpa [bears] using h3
      rw [if_pos (show -128 ≤ wo ∧ wo < 128 by omega)]; simp
    · simp
theorem modOf_bd (z : Int) : 0 ≤ modOf z ∧ modOf z ≤ 2 := by unfold modOf; (repeat' split) <;> omega
theorem mem_spec (h : PlOk b i sc) (hs : s ∈ memSh b i sc wo named) : okSh b i sc s.mod s.rm s.sib s.x s.b s.wd = true ∧ bears s.wd wo named = true ∧ 0 ≤ s.mod ∧ s.mod ≤ 2 := by
  unfold memSh at hs
  split at hs
  · rename_i c
    subst c
    obtain ⟨rfl, rfl⟩ : i = -1 ∧ sc = 1 := by unfold PlOk at h; omega
    rw [List.mem_singleton.mp hs]
    exact ⟨ck_rip, bears4, by decide, by decide⟩
  · split at hs
    · rename_i c
      subst c
      rw [List.mem_singleton.mp hs]
      exact ⟨none_ok h, bears4, Int.le_refl 0, (by decide : (0 : Int) ≤ 2)⟩
    · have hb : 0 ≤ b ∧ b ≤ 15 := by unfold PlOk at h; omega
      unfold basedSh at hs
      obtain ⟨wd, hw, hs⟩ := List.mem_flatMap.mp hs
      obtain ⟨w1, w2, w3⟩ := widths_ok hw
      obtain ⟨k1, k2⟩ := based_ok hb h w1 w2
      unfold shOne at hs
      have md := modOf_bd wd
      rcases List.mem_append.mp hs with hs | hs
      · split at hs
        · simp at hs
        · rename_i c
          rw [List.mem_singleton.mp hs]
          exact ⟨k2 (by simpa using c), w3, md.1, md.2⟩
      · rw [List.mem_singleton.mp hs]
        exact ⟨k1, w3, md.1, md.2⟩
theorem memSh_ok (h : PlOk b i sc) (hs : s ∈ memSh b i sc wo named) : (0 ≤ s.mod ∧ s.mod ≤ 2) ∧ (0 ≤ s.rm ∧ s.rm ≤ 7) ∧ (s.x = 0 ∨ s.x = 1) ∧ (s.b = 0 ∨ s.b = 1) ∧ (s.rm = 4 ∧ 0 ≤ s.sib ∧ s.sib < 256 ∨ s.rm ≠ 4 ∧ s.sib = -1) ∧ meaning s.mod s.rm s.sib s.x s.b = (b, i, sc) := by
  obtain ⟨h1, h2, h3⟩ := mem_spec h hs
  unfold okSh at h1
  simp only [Bool.and_eq_true, Bool.or_eq_true, decide_eq_true_eq] at h1
  obtain ⟨⟨⟨⟨⟨⟨⟨m, t⟩, w⟩, x⟩, y⟩, r0⟩, r7⟩, q⟩ := h1
  refine ⟨h3, ⟨r0, r7⟩, x, y, ?_, m⟩
  by_cases c : s.rm = 4
  · rw [if_pos c, Bool.and_eq_true, Bool.and_eq_true, decide_eq_true_eq, decide_eq_true_eq] at q
    exact .inl ⟨c, q.1.1, q.1.2⟩
  · rw [if_neg c] at q
    exact .inr ⟨c, of_decide_eq_true q⟩
theorem one_mem {m x y rm sib : Int} (hs : s = ⟨m, rm, sib, width m rm sib, x, y⟩) (h1 : meaning m rm sib x y = (b, i, sc)) (h2 : tidy m rm sib x y = true) (h3 : bears (width m rm sib) wo named = true) : s ∈ lawOne b i sc wo named m x y rm sib := by
  unfold lawOne
  rw [if_pos ⟨h1, h2, h3⟩, hs]; exact .head _
theorem mem_one {m x y rm sib : Int} (h : s ∈ lawOne b i sc wo named m x y rm sib) : s = ⟨m, rm, sib, width m rm sib, x, y⟩ ∧ meaning m rm sib x y = (b, i, sc) ∧ tidy m rm sib x y = true ∧ bears (width m rm sib) wo named = true := by
  unfold lawOne at h
  split at h
  · rename_i c
    exact ⟨List.mem_singleton.mp h, c.1, c.2.1, c.2.2⟩
  · simp at h
theorem all_of_mem (h : PlOk b i sc) (hs : s ∈ memSh b i sc wo named) : s ∈ lawAll b i sc wo named := by
  obtain ⟨h1, h2, h3, h4⟩ := mem_spec h hs
  unfold okSh at h1
  simp only [Bool.and_eq_true, Bool.or_eq_true, decide_eq_true_eq] at h1
  obtain ⟨⟨⟨⟨⟨⟨⟨m, t⟩, w⟩, x⟩, y⟩, r0⟩, r7⟩, q⟩ := h1
  have em : ((s.mod.toNat : Nat) : Int) = s.mod := Int.toNat_of_nonneg h3
  have er : ((s.rm.toNat : Nat) : Int) = s.rm := Int.toNat_of_nonneg r0
  have o : s ∈ lawOne b i sc wo named s.mod s.x s.b s.rm s.sib := one_mem (by cases s; simp only [Sh.mk.injEq, true_and, and_true]; exact w.symm) m t (by rw [w]; exact h2)
  refine List.mem_flatMap.mpr ⟨s.mod.toNat, List.mem_range.mpr (by omega), ?_⟩
  unfold lawMod
  rw [em]
  refine List.mem_flatMap.mpr ⟨(2 * s.x + s.b).toNat, List.mem_range.mpr (by omega), ?_⟩
  have e1 : Int.fdiv ((2 * s.x + s.b).toNat : Nat) 2 = s.x ∧ Int.fmod ((2 * s.x + s.b).toNat : Nat) 2 = s.b := by
    rcases x with x | x <;> rcases y with y | y <;> rw [x, y] <;> decide
  unfold lawBits
  rw [e1.1, e1.2]
  refine List.mem_flatMap.mpr ⟨s.rm.toNat, List.mem_range.mpr (by omega), ?_⟩
  unfold lawRm
  rw [er]
  refine List.mem_flatMap.mpr ⟨s.sib, ?_, o⟩
  by_cases c : s.rm = 4
  · rw [if_pos c] at q ⊢
    rw [Bool.and_eq_true, Bool.and_eq_true, decide_eq_true_eq, decide_eq_true_eq, decide_eq_true_eq] at q
    obtain ⟨⟨q1, q2⟩, q3⟩ := q
    refine List.mem_map.mpr ⟨(s.sib / 8).toNat, List.mem_range.mpr (by omega), ?_⟩
    unfold sibF
    rw [← q3, Int.fmod_eq_emod_of_nonneg _ (by decide)]
    omega
  · rw [if_neg c] at q ⊢
    rw [of_decide_eq_true q]; exact .head _
theorem mem_of_fw {m rm sib x y : Int} (f : fwSh m rm sib x y = true) (h1 : meaning m rm sib x y = (b, i, sc)) (h2 : tidy m rm sib x y = true) (h3 : bears (width m rm sib) wo named = true) : (⟨m, rm, sib, width m rm sib, x, y⟩ : Sh) ∈ memSh b i sc wo named := by
  unfold fwSh at f
  rw [h1, h2] at f
  simp only [Bool.not_true, Bool.false_or] at f
  unfold memSh
  split at f
  · rename_i c
    rw [if_pos c]
    simp only [Bool.and_eq_true, decide_eq_true_eq] at f
    obtain ⟨⟨⟨⟨⟨rfl, rfl⟩, rfl⟩, rfl⟩, rfl⟩, f⟩ := f
    rw [f]; exact .head _
  · rename_i c
    rw [if_neg c]
    split at f
    · rename_i c
      rw [if_pos c]
      simp only [Bool.and_eq_true, decide_eq_true_eq] at f
      obtain ⟨⟨⟨⟨⟨rfl, rfl⟩, ex⟩, rfl⟩, es⟩, f⟩ := f
      rw [f, ← ex, ← es]; exact .head _
    · rename_i c
      rw [if_neg c]
      simp only [Bool.and_eq_true, Bool.or_eq_true, decide_eq_true_eq, Bool.not_eq_true', decide_eq_false_iff_not] at f
      obtain ⟨⟨⟨⟨e1, e2⟩, e3⟩, e4⟩, e5⟩ := f
      refine List.mem_flatMap.mpr ⟨width m rm sib, ok_widths (by omega) (fun q => by omega) h3, ?_⟩
      unfold shOne
      rw [e1, e2, e3]
      rcases e5 with ⟨rfl, e5⟩ | ⟨⟨e6, e5⟩, e7⟩
      · rw [← e5]; exact List.mem_append.mpr (.inr (.head _))
      · rw [e7, ← e6, ← e5]; exact List.mem_append.mpr (.inl (.head _))
theorem sibs_in {sib : Int} (hb : -1 ≤ b ∧ b ≤ 16) (h : sib ∈ sibsTo b 32) : 0 ≤ sib ∧ sib < 256 := by
  obtain ⟨k, hk⟩ := List.getElem?_of_mem h
  exact sibs_bound hb hk
theorem mem_of_all (h : PlOk b i sc) (hs : s ∈ lawAll b i sc wo named) : s ∈ memSh b i sc wo named := by
  obtain ⟨m, hm, hs⟩ := List.mem_flatMap.mp hs
  obtain ⟨k, hk, hs⟩ := List.mem_flatMap.mp hs
  obtain ⟨rm, hr, hs⟩ := List.mem_flatMap.mp hs
  obtain ⟨sib, hsib, hs⟩ := List.mem_flatMap.mp hs
  obtain ⟨rfl, h1, h2, h3⟩ := mem_one hs
  refine mem_of_fw ?_ h1 h2 h3
  have hm := List.mem_range.mp hm
  have hk := List.mem_range.mp hk
  have hr := List.mem_range.mp hr
  have c := List.all_eq_true.mp fw_all (m : Int) (below (n := 3) (P := fun m => m ∈ ([0, 1, 2] : List Int)) (Int.natCast_nonneg m) (Int.ofNat_lt.mpr hm) (by decide))
  have xy := below (n := 4) (P := fun k => Int.fdiv k 2 ∈ ([0, 1] : List Int) ∧ Int.fmod k 2 ∈ ([0, 1] : List Int)) (Int.natCast_nonneg k) (Int.ofNat_lt.mpr hk) (by decide)
  have c := List.all_eq_true.mp c (Int.fdiv (k : Int) 2) xy.1
  have c := List.all_eq_true.mp c (Int.fmod (k : Int) 2) xy.2
  rw [Bool.and_eq_true] at c
  by_cases q : (rm : Int) = 4
  · rw [if_pos q] at hsib
    have sb := sibs_in ⟨h.1, h.2.1⟩ hsib
    rw [q]
    exact List.all_eq_true.mp c.2 sib (mem_rng sb.1 (by omega))
  · rw [if_neg q] at hsib
    rw [List.mem_singleton.mp hsib]
    refine List.all_eq_true.mp c.1 (rm : Int) ?_
    exact below (n := 8) (P := fun rm => rm ≠ 4 → rm ∈ ([0, 1, 2, 3, 5, 6, 7] : List Int)) (Int.natCast_nonneg rm) (Int.ofNat_lt.mpr hr) (by decide) q
theorem nodup_flat {α β γ : Type} {f : α → List β} {l : List α} (key : β → γ) (g : α → γ) (hl : l.Pairwise fun a a' => g a ≠ g a') (h1 : ∀ a, (f a).Nodup) (h2 : ∀ a, ∀ x ∈ f a, key x = g a) : (l.flatMap f).Nodup := by
  refine List.pairwise_flatMap.mpr ⟨fun a _ => h1 a, hl.imp fun hne x hx y hy e => hne ?_⟩
  rw [← h2 _ x hx, ← h2 _ y hy, e]
theorem one_nodup {m x y rm sib : Int} : (lawOne b i sc wo named m x y rm sib).Nodup := by unfold lawOne; split <;> simp
theorem rm_nodup {m x y : Int} {rm : Nat} : (lawRm b i sc wo named m x y rm).Nodup := by
  unfold lawRm
  refine nodup_flat Sh.sib id ?_ (fun _ => one_nodup) fun a s hs => by rw [(mem_one hs).1]; rfl
  split
  · unfold sibsTo
    rw [List.pairwise_map]
    refine List.nodup_range.imp ?_
    intro a c h
    simp only [id_eq, sibF]
    omega
  · simp
theorem mem_rm {m x y : Int} {rm : Nat} (h : s ∈ lawRm b i sc wo named m x y rm) : s.mod = m ∧ s.x = x ∧ s.b = y ∧ s.rm = rm := by
  obtain ⟨sib, _, hs⟩ := List.mem_flatMap.mp h
  rw [(mem_one hs).1]; exact ⟨rfl, rfl, rfl, rfl⟩
theorem bits_nodup {m : Int} {k : Nat} : (lawBits b i sc wo named m k).Nodup :=
  nodup_flat Sh.rm (fun rm : Nat => (rm : Int)) (List.nodup_range.imp fun h => by omega) (fun _ => rm_nodup) fun a s hs => (mem_rm hs).2.2.2
theorem mem_bits {m : Int} {k : Nat} (h : s ∈ lawBits b i sc wo named m k) : s.mod = m ∧ s.x = Int.fdiv k 2 ∧ s.b = Int.fmod k 2 := by
  obtain ⟨rm, _, hs⟩ := List.mem_flatMap.mp h
  exact ⟨(mem_rm hs).1, (mem_rm hs).2.1, (mem_rm hs).2.2.1⟩
theorem mod_nodup {m : Nat} : (lawMod b i sc wo named m).Nodup := by
  refine nodup_flat (fun s => (s.x, s.b)) (fun k : Nat => (Int.fdiv k 2, Int.fmod k 2)) (List.nodup_range.imp fun {a c} h e => h ?_) (fun _ => bits_nodup) fun a s hs => by rw [(mem_bits hs).2.1, (mem_bits hs).2.2]
  have e1 := congrArg Prod.fst e
  have e2 := congrArg Prod.snd e
  simp only [Int.fdiv_eq_ediv_of_nonneg _ (show (0 : Int) ≤ 2 by decide), Int.fmod_eq_emod_of_nonneg _ (show (0 : Int) ≤ 2 by decide)] at e1 e2
  omega
theorem all_nodup : (lawAll b i sc wo named).Nodup := by
  refine nodup_flat Sh.mod (fun k : Nat => (k : Int)) (List.nodup_range.imp fun h => by omega) (fun _ => mod_nodup) fun a s hs => ?_
  obtain ⟨k, _, hs⟩ := List.mem_flatMap.mp hs
  exact (mem_bits hs).1
theorem memSh_nodup (h : PlOk b i sc) : (memSh b i sc wo named).Nodup := by
  unfold memSh
  split
  · simp
  · split
    · simp
    · exact nodup_of keyR (based_keys (by unfold PlOk at h; omega)).1
theorem law_perm (h : PlOk b i sc) (hwo : -2147483648 ≤ wo ∧ wo < 2147483648) : (lawAll b i sc wo named).Perm (memSh b i sc wo named) :=
  (List.perm_ext_iff_of_nodup all_nodup (memSh_nodup h)).mpr fun _ => ⟨mem_of_all h, all_of_mem h⟩
end
end Mine
end
section
open PySem PySem.W PyProof.Rows
namespace Mine
theorem fall_snoc {news : List (Addr × Obj)} {ys : List Value} {ss : List Sh} {sh : Sh} {i : Nat} {D : Addr} {t1 t2 t3 t4 t5 t6 : Tok} {n : Nat} (h : FAll news ys (ss.take i)) (hs : ss[i]? = some sh) :
    FAll ([(D, tup [.int sh.mod t1, .int sh.rm t2, .int sh.sib t3, .int sh.wd t4, .int sh.x t5, .int sh.b t6] n)] ++ news) (ys ++ [.ref D]) (ss.take (i + 1)) := by
  rw [List.take_add_one, hs]
  exact (h.mono fun p hp => .tail _ hp).append (.cons (.mk (s := sh) (.head _)) .nil)
theorem ShAll.get {P : Params} {news : List (Addr × Obj)} {vs : List Value} {ss : List Sh} {i : Nat} {v : Value} (h : ShAll P news vs ss) (hv : vs[i]? = some v) : ∃ sh, ss[i]? = some sh ∧ ShIn P news v sh := by
  induction h generalizing i with
  | nil => simp at hv
  | cons a _ ih =>
    cases i with
    | zero => simp at hv; subst hv; exact ⟨_, rfl, a⟩
    | succ i => exact ih (by simpa using hv)
theorem FAll.get1 {news : List (Addr × Obj)} {vs : List Value} {ss : List Sh} {i : Nat} {v : Value} (h : FAll news vs ss) (hv : vs[i]? = some v) : ∃ sh, ss[i]? = some sh ∧ FIn news v sh := by
  induction h generalizing i with
  | nil => simp at hv
  | cons a _ ih =>
    cases i with
    | zero => simp at hv; subst hv; exact ⟨_, rfl, a⟩
    | succ i => exact ih (by simpa using hv)
end Mine
namespace Mine
theorem memSh_six {b i sc wo : Int} {named : Bool} : (memSh b i sc wo named).length ≤ 6 := by
  unfold memSh
  split
  · simp
  · split
    · simp
    · have h2 : ∀ wd, (shOne b i sc wd).length ≤ 2 := fun wd => by unfold shOne; split <;> simp
      have h3 := widths_len b wo named
      exact Nat.le_trans (flat_len h2 _) (by omega)
end Mine
namespace Mine
theorem len_list9 {prog : Program} {w : World} {A : Around} {E : Value → Shared → Prop} {s : Shared} {h₀ : Heap} {L l : Addr} {news : List (Addr × Obj)} {arr : Array Value} {n k : Nat} {Q : Value → Shared → Prop} (N : News h₀ L s.heap news) (hm : (l, W.listOf arr n) ∈ news) (hA : arr.toList.length = k) (hk : k < 1000) (h : ∀ t tk, Q (.int k t) { s with toks := tk }) :
    wpAny (model prog w) A (call (.builtin "len") [.ref l]) Q E s := by
  have e : arr.size = k := by rw [← Array.length_toList]; exact hA
  refine Calls.call_len_list (items := arr) ⟨_, (N _ hm).1, rfl, n, rfl⟩ (by rw [e]; omega) ?_
  rw [e]; exact h _ _
end Mine
namespace Mine
theorem need_key {b i sc wo : Int} {named : Bool} (h : PlOk b i sc) {s : Sh} (hs : s ∈ memSh b i sc wo named) : needSh s = (needless s.mod s.rm s.sib s.b && decide (s.x = 0)) := by
  obtain ⟨h1, h2, h3, h4, h5, h6⟩ := memSh_ok h hs
  have e := odd_law (wd := s.wd) (b := s.b) h1 h3 h5
  have e0 : (⟨s.mod, s.rm, s.sib, s.wd, s.x, s.b⟩ : Sh) = s := rfl
  rw [e0] at e
  rw [e]
  by_cases c : s.x = 0
  · rw [decide_eq_true c, Bool.true_and, Bool.and_true]
    cases hn : needless s.mod s.rm s.sib s.b with
    | false => rw [Bool.and_false]
    | true =>
      rw [Bool.and_true]
      unfold needless at hn
      simp only [Bool.and_eq_true, decide_eq_true_eq] at hn
      obtain ⟨_, hl, hm⟩ := hn
      rw [c, ← hm]
      unfold meaning
      rw [if_neg hl]
      split <;> exact decide_eq_true (by show (-1 : Int) < 0; decide)
  · rw [decide_eq_false c, Bool.false_and, Bool.and_false]
theorem key_of {b i sc wo : Int} {named : Bool} (h : PlOk b i sc) {s : Sh} (hs : s ∈ memSh b i sc wo named) : keyR s = 2 * shLen s + (if (needless s.mod s.rm s.sib s.b && decide (s.x = 0)) = true then 1 else 0) := by
  unfold keyR; rw [need_key h hs]
theorem ints_snoc {ys : List Value} {ss : List Sh} {sh : Sh} {i : Nat} {f : Sh → Int} {x : Int} {t : Tok} (h : IntsAre ys ((ss.take i).map f)) (hs : ss[i]? = some sh) (e : x = f sh) : IntsAre (ys ++ [.int x t]) ((ss.take (i + 1)).map f) := by
  subst e
  rw [List.take_add_one, hs, List.map_append]
  exact ksk_snoc h
theorem keys_le {ss : List Sh} (h : ss.Pairwise (fun a b => ltKey a b = true)) : (ss.map keyR).Pairwise (· ≤ ·) := by
  rw [List.pairwise_map]
  exact h.imp fun q => Int.le_of_lt (of_decide_eq_true q)
theorem le_same : ∀ {x y : List Int}, x.Perm y → x.Pairwise (· ≤ ·) → y.Pairwise (· ≤ ·) → x = y
  | [], y, p, _, _ => (List.nil_perm.mp p).symm
  | a :: x, [], p, _, _ => absurd p.length_eq (by simp)
  | a :: x, b :: y, p, hx, hy => by
    have hx2 := List.pairwise_cons.mp hx
    have hy2 := List.pairwise_cons.mp hy
    have ha : b ≤ a := by
      rcases List.mem_cons.mp (p.mem_iff.mp (.head _)) with q | q
      · omega
      · exact hy2.1 a q
    have hb : a ≤ b := by
      rcases List.mem_cons.mp (p.mem_iff.mpr (.head _)) with q | q
      · omega
      · exact hx2.1 b q
    have e : a = b := by omega
    subst e
    rw [le_same ((List.perm_cons a).mp p) hx2.2 hy2.2]
theorem fresh_led {h₀ h : Heap} {L D : Addr} {ys : List Value} {news : List (Addr × Obj)} (N : News h₀ L h ((D, LCg.lst ys) :: news)) : ∃ R, News h₀ L h R ∧ (∀ p ∈ news, p ∈ R) ∧ (D, W.listOf ys.toArray ys.length) ∈ R := ⟨_, N, fun p hp => .tail _ hp, .head _⟩
end Mine
namespace Mine
section
variable {news news' : List (Addr × Obj)} (hs : ∀ p ∈ news, p.2.cls ≠ .none → p ∈ news')
include hs
theorem FAll.kc {vs : List Value} {ss : List Sh} (h : FAll news vs ss) : FAll news' vs ss := by
  induction h with
  | nil => exact .nil
  | cons a _ ih => cases a with | mk a => exact .cons (.mk (hs _ a (by simp))) ih
theorem ShAll.kc {P : Params} {vs : List Value} {ss : List Sh} (h : ShAll P news vs ss) : ShAll P news' vs ss := by
  induction h with
  | nil => exact .nil
  | cons a _ ih => cases a with | mk a c => exact .cons (.mk (hs _ a (by simp [instObj])) (hs _ c (by simp [dictOf]))) ih
end
theorem take_all {news : List (Addr × Obj)} {vs : Array Value} {ss : List Sh} (h : FAll news vs.toList ss) : ss.take vs.size = ss := by
  have e := h.length
  rw [Array.length_toList] at e
  rw [e, List.take_length]
theorem key_len {a b : Sh} (h : ltKey a b = true) : shLen a ≤ shLen b := by
  have h := of_decide_eq_true h
  unfold keyR at h
  split at h <;> split at h <;> omega
theorem min_is {s0 : Sh} {ss0 ds ms : List Sh} {M : Int} (h1 : M ∈ ds.map shLen) (h2 : ∀ a, a ∈ ds.map shLen → M ≤ a) (pd : ds.Perm ms) (ps : (s0 :: ss0).Perm ms) (pw : (s0 :: ss0).Pairwise (fun a b => ltKey a b = true)) : M = shLen s0 := by
  have p := pd.trans ps.symm
  have a := h2 _ (List.mem_map_of_mem (f := shLen) (p.mem_iff.mpr (.head _)))
  obtain ⟨x, hx, e⟩ := List.mem_map.mp h1
  have hx2 := p.mem_iff.mp hx
  rcases List.mem_cons.mp hx2 with rfl | hx2
  · exact e.symm
  · have := key_len ((List.pairwise_cons.mp pw).1 x hx2)
    omega
theorem led_after {P : Params} {h₀ h : Heap} {L : Addr} {add R : List (Addr × Obj)} {e : Addr × Obj} {v : Value} {s0 : Sh} (N : News h₀ L h (add ++ (e :: R))) (hv : ShIn P add v s0) : ∃ R5, News h₀ L h R5 ∧ (∀ p ∈ R, p ∈ R5) ∧ ShIn P R5 v s0 ∧ e ∈ R5 :=
  ⟨_, N, fun p hp => List.mem_append.mpr (.inr (.tail _ hp)), hv.mono fun p hp => List.mem_append.mpr (.inl hp), List.mem_append.mpr (.inr (.head _))⟩
theorem first_F {R : List (Addr × Obj)} {ys : List Value} {s0 : Sh} {ss0 : List Sh} (h : FAll R ys (s0 :: ss0)) : ∃ y r, ys = y :: r ∧ FIn R y s0 := by
  cases h with
  | cons a _ => exact ⟨_, _, rfl, a⟩
end Mine
namespace Mine
theorem sub0 {prog : Program} {w : World} {A : Around} {E : Value → Shared → Prop} {s : Shared} {h₀ : Heap} {L l : Addr} {news : List (Addr × Obj)} {value slice : PySem.Expr} {u : Tok} {v : Value} {r : List Value} {n : Nat} {Q : Value → Shared → Prop} (N : News h₀ L s.heap news) (hm : (l, W.listOf (v :: r).toArray n) ∈ news) (h : Q v s)
    (hs : subscripted slice false (.ref l) (.int 0 u) = operate [.ref l, .int 0 u] (getItem (.ref l) (.int 0 u))) : wpAny (model prog w) A (subscriptTail value slice (.ref l) (.int 0 u)) Q E s := by
  have hl : s.heap.IsList l (v :: r).toArray := ⟨_, (N _ hm).1, rfl, n, rfl⟩
  exact tail_any hl.typeIs slot_list_getitem.lookup (wpAny_getItem_list hl (by decide) (by decide) (x := v) (by simp) h) hs
end Mine
namespace Mine
theorem apartC {h₀ h : Heap} {L c : Addr} {news : List (Addr × Obj)} {o : Obj} (N : News h₀ L h news) (ht : (c, o) ∈ news) : ∃ R, News h₀ L h ((c, o) :: R) ∧ (∀ p ∈ R, p.1 ≠ c) ∧ (∀ p ∈ news, p.2.data ≠ o.data → p ∈ R) ∧ (∀ p ∈ news, p.1 ≠ c → p ∈ R) := by
  refine ⟨news.filter (fun p => decide (p.1 ≠ c)), fun p hp => ?_, fun p hp => of_decide_eq_true (List.mem_filter.mp hp).2, fun p hp hd => List.mem_filter.mpr ⟨hp, decide_eq_true fun e => ?_⟩, fun p hp hn => List.mem_filter.mpr ⟨hp, decide_eq_true hn⟩⟩
  · rcases List.mem_cons.mp hp with rfl | hp
    · exact N _ ht
    · exact N p (List.mem_filter.mp hp).1
  · have h1 := (N _ hp).1
    have h2 := (N _ ht).1
    rw [e, h2] at h1
    exact hd (by rw [← Option.some.inj h1])
theorem ShAll.kd {P : Params} {news news' : List (Addr × Obj)} {vs : List Value} {ss : List Sh} (hs : ∀ p ∈ news, p.2.data ≠ .cell none → p ∈ news') (h : ShAll P news vs ss) : ShAll P news' vs ss := by
  induction h with
  | nil => exact .nil
  | cons a _ ih => cases a with | mk a c => exact .cons (.mk (hs _ a (by simp [instObj])) (hs _ c (by simp [dictOf]))) ih
end Mine
namespace Mine
theorem bools_snoc : ∀ {ys : List Value} {i : Nat}, LSm.BoolsAre ys (List.replicate i true) → LSm.BoolsAre (ys ++ [.bool true]) (List.replicate (i + 1) true)
  | [], 0, _ => .cons true .nil
  | _ :: _, i + 1, .cons _ h => .cons true (bools_snoc h)
theorem all_rep {i : Nat} : (List.replicate i true).all id = true := by simp
theorem led_told {h₀ h : Heap} {L c D : Addr} {o : Obj} {led : List (Addr × Obj)} {m0 s1 s2 sg nm : Str} {sc wo sz : Int} {t1 t2 t3 t4 t5 t6 t7 t8 : Tok} {n : Nat} (N : News h₀ L h led) (_ : o.data = .cell (some (.ref D))) (h1 : (c, o) ∈ led)
    (h2 : (D, tup [.str m0 t1, .str s1 t2, .str s2 t3, .int sc t4, .int wo t5, .int sz t6, .str sg t7, .str nm t8] n) ∈ led) :
    ∃ R, News h₀ L h R ∧ (∀ p ∈ led, p ∈ R) ∧ (c, o) ∈ R ∧ (D, tup [.str m0 t1, .str s1 t2, .str s2 t3, .int sc t4, .int wo t5, .int sz t6, .str sg t7, .str nm t8] n) ∈ R := ⟨_, N, fun _ h => h, h1, h2⟩
theorem dat8_by {news : List (Addr × Obj)} {D : Addr} {md rm sib x y b i sc wo sz : Int} {sg nm : Str} {t1 t2 t3 t4 t5 t6 t7 t8 : Tok} {n : Nat} (e : meaning md rm sib x y = (b, i, sc))
    (h : (D, tup8 (meaning md rm sib x y).1 (meaning md rm sib x y).2.1 (meaning md rm sib x y).2.2 wo sz sg nm t1 t2 t3 t4 t5 t6 t7 t8 n) ∈ news) : DatIn news (.ref D) (dat8 b i sc wo sz sg nm) := by
  rw [e] at h
  exact dat8_in h rfl rfl rfl
end Mine
namespace Mine
theorem nil_of {h₀ h : Heap} {L : Addr} {m : Str → Option Value} (_ : Fr h₀ L h m) : News h₀ L h [] := News.nil
theorem worth10 (p g : Int) : -2147483648 ≤ ([0, 1, -1, 127, -128, 128, -129, 2147483647, -2147483648, Int.fmod p 65536 - 32768] : List Int).getD (Int.fmod g 10).toNat 0 ∧ ([0, 1, -1, 127, -128, 128, -129, 2147483647, -2147483648, Int.fmod p 65536 - 32768] : List Int).getD (Int.fmod g 10).toNat 0 < 2147483648 := by
  have h := @fm_lt p 65536 (by decide)
  refine getD_all (P := fun k => -2147483648 ≤ k ∧ k < 2147483648) ?_ (by decide) _
  simp only [List.forall_mem_cons]
  exact ⟨by decide, by decide, by decide, by decide, by decide, by decide, by decide, by decide, by decide, by omega, fun _ h => nomatch h⟩
end Mine
namespace Mine
theorem subt {prog : Program} {w : World} {A : Around} {E : Value → Shared → Prop} {s : Shared} {h₀ : Heap} {L l : Addr} {news : List (Addr × Obj)} {value slice : PySem.Expr} {u : Tok} {k : Int} {j : Nat} {x : Value} {vs : List Value} {n : Nat} {Q : Value → Shared → Prop} (N : News h₀ L s.heap news) (hm : (l, tup vs n) ∈ news)
    (hlo : -(2 ^ 63) ≤ k) (hhi : k < 2 ^ 63) (hj : seqIndex? k vs.length = some j) (hx : vs[j]? = some x) (h : Q x s)
    (hs : subscripted slice false (.ref l) (.int k u) = operate [.ref l, .int k u] (getItem (.ref l) (.int k u))) : wpAny (model prog w) A (subscriptTail value slice (.ref l) (.int k u)) Q E s :=
  item_tupleT (News.isTup N hm) hlo hhi hj hx h hs
end Mine
namespace Mine
theorem len63 {vs : List Value} {ns : List Int} (_ : IntsAre vs ns) (k : ns.length ≤ 63) : ns.length ≤ 63 := k
end Mine
namespace Mine
theorem tab_led {h₀ h : Heap} {L : Addr} {led : List (Addr × Obj)} {ps : Array Value} (N : News h₀ L h led) (hm : (422, tabObj ps) ∈ led) : News h₀ L h [(422, tabObj ps)] := fun p hp => N p (by rw [List.mem_singleton.mp hp]; exact hm)
theorem tab_no {ps : Array Value} : (422, tabObj ps).2.data ≠ .cell none := by simp [tabObj]
end Mine
end
section
open PySem PySem.W PyProof.Rows
namespace Mine
noncomputable section
noncomputable abbrev RSHP (P : Params) (q1 q2 q3 q4 q5 q6 : Int) : Value → List (Addr × Obj) → Prop := fun v add => ∃ x1 d1 k1 k2 k3 k4 k5 k6 t1 t2 t3 t4 t5 t6 n, v = .ref x1 ∧ add = [(x1, instObj 367 d1), (d1, shDict6 P q1 q2 q3 q4 q5 q6 k1 k2 k3 k4 k5 k6 t1 t2 t3 t4 t5 t6 n)]
noncomputable abbrev RMEM (P : Params) (v1 v2 : Value) (sc wo sz : Int) (sg nm : Str) : Value → List (Addr × Obj) → Prop := fun v add => ∃ x1 d1 k0 k1 k2 k3 k4 k5 k6 k7 t0 t3 t4 t5 t6 t7 n, v = .ref x1 ∧ add = [(x1, instObj 173 d1), (d1, memDict P v1 v2 sc wo sz sg nm k0 k1 k2 k3 k4 k5 k6 k7 t0 t3 t4 t5 t6 t7 n)]
noncomputable abbrev R3t (a b c : Int) : Value → List (Addr × Obj) → Prop := fun v add => ∃ D t1 t2 t3 n, v = .ref D ∧ add = [(D, tup [.int a t1, .int b t2, .int c t3] n)]
noncomputable abbrev RCE : Value → List (Addr × Obj) → Prop := fun u add => add = [] ∧ ∃ g t, u = .int g t ∧ 0 ≤ g
noncomputable abbrev RPL : Value → List (Addr × Obj) → Prop := fun v add => ∃ D t1 t2 t3 n b i sc, v = .ref D ∧ add = [(D, tup [.int b t1, .int i t2, .int sc t3] n)] ∧ PlOk b i sc
section
variable {h₀ : Heap} {L : Addr} {m : Str → Option Value} {news : List (Addr × Obj)} {s : Shared} {Q : Value → Shared → Prop}
theorem back_3t {h' : Heap} {led : List (Addr × Obj)} {tk : Nat} {a b c x y z : Int} {t1 t2 t3 : Tok} {n : Nat} {D : Addr} (hret : Back h₀ L m news s Q (R3t a b c)) (F : Fr h₀ L h' m) (N : News h₀ L h' led) (hm : (D, tup [.int x t1, .int y t2, .int z t3] n) ∈ led) (hs : ∀ p ∈ news, p ∈ led) (hl : AllLt D news) (e1 : x = a) (e2 : y = b) (e3 : z = c) :
    Q (.ref D) { s with heap := h', toks := tk } := by
  subst e1 e2 e3; exact back_add [(D, _)] hret ⟨D, t1, t2, t3, n, rfl, rfl⟩ F N (fun p hp => by rw [List.mem_singleton.mp hp]; exact hm) hs (lt_one hl)
end
section
variable {P : Params} {h₀ : Heap} {L : Addr} {m : Str → Option Value} {news : List (Addr × Obj)} {hp : Heap} {gs : Array GenState} {dw : Drawn} {tk0 : Nat} {os : OsState} {Q : Value → Shared → Prop}
theorem ret_i {g : Int} (k : ∀ t h' tk', Fr h₀ L h' m → News h₀ L h' news → Q (.int g t) ⟨h', gs, dw, tk', os⟩) : Back h₀ L m news ⟨hp, gs, dw, tk0, os⟩ Q (RI g) := by
  rintro v add h' tk' ⟨rfl, t, rfl⟩ F N _; exact k t h' tk' F N
theorem ret_b {g : Bool} (k : ∀ h' tk', Fr h₀ L h' m → News h₀ L h' news → Q (.bool g) ⟨h', gs, dw, tk', os⟩) : Back h₀ L m news ⟨hp, gs, dw, tk0, os⟩ Q (RB g) := by
  rintro v add h' tk' ⟨rfl, rfl⟩ F N _; exact k h' tk' F N
theorem ret_s {g : Str} (k : ∀ t h' tk', Fr h₀ L h' m → News h₀ L h' news → Q (.str g t) ⟨h', gs, dw, tk', os⟩) : Back h₀ L m news ⟨hp, gs, dw, tk0, os⟩ Q (RS g) := by
  rintro v add h' tk' ⟨rfl, t, rfl⟩ F N _; exact k t h' tk' F N
theorem ret_n (k : ∀ h' tk', Fr h₀ L h' m → News h₀ L h' news → Q .none ⟨h', gs, dw, tk', os⟩) : Back h₀ L m news ⟨hp, gs, dw, tk0, os⟩ Q RN := by
  rintro v add h' tk' ⟨rfl, rfl⟩ F N _; exact k h' tk' F N
theorem ret_u {v : Value} (k : ∀ h' tk', Fr h₀ L h' m → News h₀ L h' news → Q v ⟨h', gs, dw, tk', os⟩) : Back h₀ L m news ⟨hp, gs, dw, tk0, os⟩ Q (fun u add => add = [] ∧ u = v) := by
  rintro v add h' tk' ⟨rfl, rfl⟩ F N _; exact k h' tk' F N
theorem ret_ce (k : ∀ g t h' tk', 0 ≤ g → Fr h₀ L h' m → News h₀ L h' news → Q (.int g t) ⟨h', gs, dw, tk', os⟩) : Back h₀ L m news ⟨hp, gs, dw, tk0, os⟩ Q RCE := by
  rintro v add h' tk' ⟨rfl, g, t, rfl, hg⟩ F N _; exact k g t h' tk' hg F N
theorem ret_3t {a b c : Int} (k : ∀ D t1 t2 t3 n h' tk', Fr h₀ L h' m → News h₀ L h' ((D, tup [.int a t1, .int b t2, .int c t3] n) :: news) → (∀ q ∈ news, q.1 < D) → Q (.ref D) ⟨h', gs, dw, tk', os⟩) :
    Back h₀ L m news ⟨hp, gs, dw, tk0, os⟩ Q (R3t a b c) := by
  rintro v add h' tk' ⟨D, t1, t2, t3, n, rfl, rfl⟩ F N l; exact k D t1 t2 t3 n h' tk' F N (lt_back l)
theorem rel_3t {a b c : Int} (_ : OwnLoops) (k : ∀ D t1 t2 t3 n h' tk', Fr h₀ L h' m → News h₀ L h' ((D, tup [.int a t1, .int b t2, .int c t3] n) :: news) → (∀ q ∈ news, q.1 < D) → AllLt D news → Q (.ref D) ⟨h', gs, dw, tk', os⟩) :
    Back h₀ L m news ⟨hp, gs, dw, tk0, os⟩ Q (R3t a b c) := by
  rintro v add h' tk' ⟨D, t1, t2, t3, n, rfl, rfl⟩ F N l; exact k D t1 t2 t3 n h' tk' F N (lt_back l) (allLt_of (lt_back l))
theorem rel_l {ws : List Int} (_ : OwnLoops) (k : ∀ D vs n h' tk', IntsAre vs ws → Fr h₀ L h' m → News h₀ L h' ((D, W.listOf vs.toArray n) :: news) → (∀ q ∈ news, q.1 < D) → AllLt D news → Q (.ref D) ⟨h', gs, dw, tk', os⟩) :
    Back h₀ L m news ⟨hp, gs, dw, tk0, os⟩ Q (RL ws) := by
  rintro v add h' tk' ⟨D, vs, n, rfl, rfl, i⟩ F N l; exact k D vs n h' tk' i F N (lt_back l) (allLt_of (lt_back l))
theorem rel_sh {q1 q2 q3 q4 q5 q6 : Int} (_ : OwnLoops) (k : ∀ x d k1 k2 k3 k4 k5 k6 t1 t2 t3 t4 t5 t6 n h' tk', Fr h₀ L h' m → News h₀ L h' ((x, instObj 367 d) :: (d, shDict6 P q1 q2 q3 q4 q5 q6 k1 k2 k3 k4 k5 k6 t1 t2 t3 t4 t5 t6 n) :: news) →
    (∀ q ∈ news, q.1 < d) → (∀ q ∈ news, q.1 < x) → AllLt d news → AllLt x news → Q (.ref x) ⟨h', gs, dw, tk', os⟩) : Back h₀ L m news ⟨hp, gs, dw, tk0, os⟩ Q (RSHP P q1 q2 q3 q4 q5 q6) := by
  rintro v add h' tk' ⟨x, d, k1, k2, k3, k4, k5, k6, t1, t2, t3, t4, t5, t6, n, rfl, rfl⟩ F N l; exact k x d _ _ _ _ _ _ _ _ _ _ _ _ _ h' tk' F N (lt_back2 l) (lt_back l) (allLt_of (lt_back2 l)) (allLt_of (lt_back l))
theorem ret_pl (k : ∀ D t1 t2 t3 n b i sc h' tk', PlOk b i sc → Fr h₀ L h' m → News h₀ L h' ((D, tup [.int b t1, .int i t2, .int sc t3] n) :: news) → (∀ q ∈ news, q.1 < D) → Q (.ref D) ⟨h', gs, dw, tk', os⟩) :
    Back h₀ L m news ⟨hp, gs, dw, tk0, os⟩ Q RPL := by
  rintro v add h' tk' ⟨D, t1, t2, t3, n, b, i, sc, rfl, rfl, p⟩ F N l; exact k D t1 t2 t3 n b i sc h' tk' p F N (lt_back l)
theorem ret_t8 {b i sc wo sz : Int} {sg nm : Str} (k : ∀ D t1 t2 t3 t4 t5 t6 t7 t8 n h' tk', Fr h₀ L h' m → News h₀ L h' ((D, tup8 b i sc wo sz sg nm t1 t2 t3 t4 t5 t6 t7 t8 n) :: news) → (∀ q ∈ news, q.1 < D) → Q (.ref D) ⟨h', gs, dw, tk', os⟩) :
    Back h₀ L m news ⟨hp, gs, dw, tk0, os⟩ Q (RT8 b i sc wo sz sg nm) := by
  rintro v add h' tk' ⟨D, t1, t2, t3, t4, t5, t6, t7, t8, n, rfl, rfl⟩ F N l; exact k D t1 t2 t3 t4 t5 t6 t7 t8 n h' tk' F N (lt_back l)
theorem ret_l {ws : List Int} (k : ∀ D vs n h' tk', IntsAre vs ws → Fr h₀ L h' m → News h₀ L h' ((D, W.listOf vs.toArray n) :: news) → (∀ q ∈ news, q.1 < D) → Q (.ref D) ⟨h', gs, dw, tk', os⟩) :
    Back h₀ L m news ⟨hp, gs, dw, tk0, os⟩ Q (RL ws) := by
  rintro v add h' tk' ⟨D, vs, n, rfl, rfl, i⟩ F N l; exact k D vs n h' tk' i F N (lt_back l)
theorem ret_g {b : Int} (k : ∀ r dr o h' tk', RegIn P [(r, instObj 255 dr), (dr, o)] (.ref r) b → Fr h₀ L h' m → News h₀ L h' ((r, instObj 255 dr) :: (dr, o) :: news) → (∀ q ∈ news, q.1 < dr) → (∀ q ∈ news, q.1 < r) →
    Q (.ref r) ⟨h', gs, dw, tk', os⟩) : Back h₀ L m news ⟨hp, gs, dw, tk0, os⟩ Q (RG P b) := by
  rintro v add h' tk' ⟨r, dr, o, rfl, rfl, g⟩ F N l; exact k r dr o h' tk' g F N (lt_back2 l) (lt_back l)
theorem ret_sh {q1 q2 q3 q4 q5 q6 : Int} (k : ∀ x d k1 k2 k3 k4 k5 k6 t1 t2 t3 t4 t5 t6 n h' tk', Fr h₀ L h' m → News h₀ L h' ((x, instObj 367 d) :: (d, shDict6 P q1 q2 q3 q4 q5 q6 k1 k2 k3 k4 k5 k6 t1 t2 t3 t4 t5 t6 n) :: news) →
    (∀ q ∈ news, q.1 < d) → (∀ q ∈ news, q.1 < x) → Q (.ref x) ⟨h', gs, dw, tk', os⟩) : Back h₀ L m news ⟨hp, gs, dw, tk0, os⟩ Q (RSHP P q1 q2 q3 q4 q5 q6) := by
  rintro v add h' tk' ⟨x, d, k1, k2, k3, k4, k5, k6, t1, t2, t3, t4, t5, t6, n, rfl, rfl⟩ F N l; exact k x d _ _ _ _ _ _ _ _ _ _ _ _ _ h' tk' F N (lt_back2 l) (lt_back l)
theorem ret_me {v1 v2 : Value} {sc wo sz : Int} {sg nm : Str} (k : ∀ x d k0 k1 k2 k3 k4 k5 k6 k7 t0 t3 t4 t5 t6 t7 n h' tk', Fr h₀ L h' m → News h₀ L h' ((x, instObj 173 d) :: (d, memDict P v1 v2 sc wo sz sg nm k0 k1 k2 k3 k4 k5 k6 k7 t0 t3 t4 t5 t6 t7 n) :: news) →
    (∀ q ∈ news, q.1 < d) → (∀ q ∈ news, q.1 < x) → Q (.ref x) ⟨h', gs, dw, tk', os⟩) : Back h₀ L m news ⟨hp, gs, dw, tk0, os⟩ Q (RMEM P v1 v2 sc wo sz sg nm) := by
  rintro v add h' tk' ⟨x, d, k0, k1, k2, k3, k4, k5, k6, k7, t0, t3, t4, t5, t6, t7, n, rfl, rfl⟩ F N l; exact k x d _ _ _ _ _ _ _ _ _ _ _ _ _ _ _ h' tk' F N (lt_back2 l) (lt_back l)
theorem ret_m {b i sc wo sz : Int} {sg nm : Str} (k : ∀ x d v1 v2 k0 k1 k2 k3 k4 k5 k6 k7 t0 t3 t4 t5 t6 t7 n add h' tk', MemIn P add (.ref x) b i sc wo sz sg nm → Fr h₀ L h' m → News h₀ L h' ((x, instObj 173 d) :: (d, memDict P v1 v2 sc wo sz sg nm k0 k1 k2 k3 k4 k5 k6 k7 t0 t3 t4 t5 t6 t7 n) :: (news ++ add)) →
    (∀ q ∈ news, ∀ p ∈ add, q.1 < p.1) → Q (.ref x) ⟨h', gs, dw, tk', os⟩) : Back h₀ L m news ⟨hp, gs, dw, tk0, os⟩ Q (RM P b i sc wo sz sg nm) := by
  intro v add h' tk' g F N l
  obtain ⟨x, d, v1, v2, k0, k1, k2, k3, k4, k5, k6, k7, t0, t3, t4, t5, t6, t7, n, rfl, N'⟩ := mem_open g N
  exact k x d _ _ _ _ _ _ _ _ _ _ _ _ _ _ _ _ _ add h' tk' g F N' l
theorem ret_f {ss : List Sh} (k : ∀ D vs n tl h' tk', FAll tl vs.toList ss → Fr h₀ L h' m → News h₀ L h' ((D, W.listOf vs n) :: (tl ++ news)) → (∀ q ∈ news, ∀ p ∈ (D, W.listOf vs n) :: tl, q.1 < p.1) → Q (.ref D) ⟨h', gs, dw, tk', os⟩) :
    Back h₀ L m news ⟨hp, gs, dw, tk0, os⟩ Q (RF ss) := by
  rintro v add h' tk' ⟨D, vs, n, tl, rfl, rfl, i⟩ F N l; exact k D vs n tl h' tk' i F N l
theorem ret_ss {ss : List Sh} (k : ∀ D vs n tl h' tk', ShAll P tl vs.toList ss → Fr h₀ L h' m → News h₀ L h' ((D, W.listOf vs n) :: (tl ++ news)) → (∀ q ∈ news, ∀ p ∈ (D, W.listOf vs n) :: tl, q.1 < p.1) → Q (.ref D) ⟨h', gs, dw, tk', os⟩) :
    Back h₀ L m news ⟨hp, gs, dw, tk0, os⟩ Q (RSh P ss) := by
  rintro v add h' tk' ⟨D, vs, n, tl, rfl, rfl, i⟩ F N l; exact k D vs n tl h' tk' i F N l
end
noncomputable def Fin (gs : Array GenState) (dw : Drawn) (os : OsState) (g : Heap) (L : Addr) (news : List (Addr × Obj)) (R : Value → List (Addr × Obj) → Prop) (fl : Flow) (s' : Shared) : Prop :=
  ∃ h' tk' m' led add, s' = ⟨h', gs, dw, tk', os⟩ ∧ Fr g L h' m' ∧ News g L h' led ∧ R (match fl with | .ret v => v | _ => .none) add ∧ (∀ p ∈ add, p ∈ led) ∧ (∀ p ∈ news, p ∈ led) ∧ (∀ q ∈ news, ∀ p ∈ add, q.1 < p.1)
theorem clls_enter {K : Params → Frag} {V : Program} {TL : List Str} {w : World} {d u : Nat} {f : Addr} {vs : List Value} {G : Heap → Prop} {news : List (Addr × Obj)} {R : Value → List (Addr × Obj) → Prop}
    {name qual : Str} {params : Arguments} {body : List Stmt} {scope : Scope} {dV kV doc pm cdv ct oc : Value} {an od : Option Addr} {osl : Array (Option Value)}
    (ho : (K w.params).lookup f = some ⟨oc, od, .func (fnOf name qual params body scope dV kV doc pm an cdv ct), osl⟩) (hcd : codeIn (K w.params) cdv qual = true)
    (hbind : ∀ s, BindsTo s (fnOf name qual params body scope dV kV doc pm an cdv ct) ⟨vs, []⟩ ((params.args.map fun x => x.arg).zip vs)) (hloc : ∀ y ∈ (params.args.map fun x => x.arg).zip vs, scope.names.lookup y.1 = some .local)
    (hcell : ∀ x ∈ scope.names, x.2 ≠ .cell) (hco : scope.isCoroutine = false) (hgen : scope.isGenerator = false) (hk : scope.kind = .function)
    (h : ∀ (mean : ExcName → Option Value) (mg mb : Str → Option Value) (dp un : Nat) (gd : Option (List Code)) (outer : List Env) (A₀ : Around) (base g : Heap) (L : Addr) (gs : Array GenState) (dw : Drawn) (os : OsState) (h₁ : Heap) (tk : Nat) (E : Value → Shared → Prop),
      let m : Str → Option Value := fun y => (((params.args.map fun x => x.arg).zip vs).reverse).lookup y
      Below A₀ base outer g → Fr g L h₁ m → (K w.params).In g → News g L h₁ news → Top V TL mean mg mb g → G base → dp + d < recursionLimit → un + u < cLine → PassesOwn (model PySem.Challenge.rw_pb0421_01.row.prog w) (ktrTop dp un gd qual scope L f cdv [] outer) (envOf qual scope L f cdv) E →
      wpAny (model PySem.Challenge.rw_pb0421_01.row.prog w) (ktrTop dp un gd qual scope L f cdv [] outer) (execs body (envOf qual scope L f cdv)) (Fin gs dw os g L news R) E ⟨h₁, gs, dw, tk, os⟩) :
    Clls K V TL w (d + 1) (u + 3) f vs G news R := by
  unfold Clls
  intro mean mg mb dp un gd cn cs a ccd cl outer A₀ base h₀ L m s Q E B F X N T hG hks hd hu hret
  refine wpAny_call ?_
  refine code_def B F X N T rfl rfl hks ho hcd (Nat.lt_of_le_of_lt (Nat.le_add_right dp (d + 1)) hd) (hbind s) hloc (fun g L' h₁ FG F' N' B' X' T' => ?_) hco hgen hk hcell
  refine wpAny_mono (h mean mg mb (dp + 1) (un + 3) gd (envX cn cs L a ccd cl :: outer) _ base g L' s.gens s.drawn s.os h₁ _ _ B' F' X' N' T' hG (by omega) (by omega) (by with_unfolding_all passes_own)) (fun fl s' hf => ?_) (fun e s' x => x)
  obtain ⟨h', tk', m', led, add, rfl, F'', N'', hR, ha, hs, ho'⟩ := hf
  exact leaveK_ F'' N'' fun Fk Nk => back_add add hret hR Fk Nk ha hs ho'
section
variable {h₀ h' : Heap} {L : Addr} {m : Str → Option Value} {news led add : List (Addr × Obj)} {hp : Heap} {gs : Array GenState} {dw : Drawn} {tk0 : Nat} {os : OsState} {R : Value → List (Addr × Obj) → Prop} {v : Value} {tk : Nat} {P : Params}
theorem fin_back : Back h₀ L m news ⟨hp, gs, dw, tk0, os⟩ (fun v s' => Fin gs dw os h₀ L news R (.ret v) s') R := fun v add h' tk' hR F N l =>
  ⟨h', tk', m, add ++ news, add, rfl, F, N, hR, fun _ hp => List.mem_append.mpr (.inl hp), fun _ hp => List.mem_append.mpr (.inr hp), l⟩
theorem fin_add (add : List (Addr × Obj)) (hR : R v add) (F : Fr h₀ L h' m) (N : News h₀ L h' led) (ha : ∀ p ∈ add, p ∈ led) (hs : ∀ p ∈ news, p ∈ led) (ho : ∀ q ∈ news, ∀ p ∈ add, q.1 < p.1) : Fin gs dw os h₀ L news R (.ret v) ⟨h', gs, dw, tk, os⟩ :=
  back_add (Q := fun v s' => Fin gs dw os h₀ L news R (.ret v) s') add (fin_back (hp := h') (tk0 := tk)) hR F N ha hs ho
theorem fin_i {g x : Int} {t : Tok} (F : Fr h₀ L h' m) (N : News h₀ L h' led) (hs : ∀ p ∈ news, p ∈ led) (e : x = g) : Fin gs dw os h₀ L news (RI g) (.ret (.int x t)) ⟨h', gs, dw, tk, os⟩ := by
  subst e; exact fin_add [] ⟨rfl, t, rfl⟩ F N (fun _ h => nomatch h) hs (fun _ _ _ h => nomatch h)
theorem fin_b {g x : Bool} (F : Fr h₀ L h' m) (N : News h₀ L h' led) (hs : ∀ p ∈ news, p ∈ led) (e : x = g) : Fin gs dw os h₀ L news (RB g) (.ret (.bool x)) ⟨h', gs, dw, tk, os⟩ := by
  subst e; exact fin_add [] ⟨rfl, rfl⟩ F N (fun _ h => nomatch h) hs (fun _ _ _ h => nomatch h)
theorem fin_s {g x : Str} {t : Tok} (F : Fr h₀ L h' m) (N : News h₀ L h' led) (hs : ∀ p ∈ news, p ∈ led) (e : x = g) : Fin gs dw os h₀ L news (RS g) (.ret (.str x t)) ⟨h', gs, dw, tk, os⟩ := by
  subst e; exact fin_add [] ⟨rfl, t, rfl⟩ F N (fun _ h => nomatch h) hs (fun _ _ _ h => nomatch h)
theorem fin_u {v : Value} (F : Fr h₀ L h' m) (N : News h₀ L h' led) (hs : ∀ p ∈ news, p ∈ led) : Fin gs dw os h₀ L news (fun u add => add = [] ∧ u = v) (.ret v) ⟨h', gs, dw, tk, os⟩ :=
  fin_add [] ⟨rfl, rfl⟩ F N (fun _ h => nomatch h) hs (fun _ _ _ h => nomatch h)
theorem fin_n {fl : Flow} (F : Fr h₀ L h' m) (N : News h₀ L h' led) (hs : ∀ p ∈ news, p ∈ led) (e : (match fl with | .ret v => v | _ => .none) = Value.none) : Fin gs dw os h₀ L news RN fl ⟨h', gs, dw, tk, os⟩ :=
  ⟨h', tk, m, led, [], rfl, F, N, ⟨rfl, e⟩, fun _ h => (nomatch h), hs, fun _ _ _ h => nomatch h⟩
theorem fin_ce {g : Int} {t : Tok} (F : Fr h₀ L h' m) (N : News h₀ L h' led) (hs : ∀ p ∈ news, p ∈ led) (e : 0 ≤ g) : Fin gs dw os h₀ L news RCE (.ret (.int g t)) ⟨h', gs, dw, tk, os⟩ :=
  fin_add [] ⟨rfl, _, _, rfl, e⟩ F N (fun _ h => nomatch h) hs (fun _ _ _ h => nomatch h)
theorem fin_3t {a b c x y z : Int} {t1 t2 t3 : Tok} {n : Nat} {D : Addr} (F : Fr h₀ L h' m) (N : News h₀ L h' led) (hm : (D, tup [.int x t1, .int y t2, .int z t3] n) ∈ led) (hs : ∀ p ∈ news, p ∈ led) (hl : AllLt D news) (e1 : x = a) (e2 : y = b) (e3 : z = c) :
    Fin gs dw os h₀ L news (R3t a b c) (.ret (.ref D)) ⟨h', gs, dw, tk, os⟩ := back_3t (Q := fun v s' => Fin gs dw os h₀ L news (R3t a b c) (.ret v) s') (fin_back (hp := h') (tk0 := tk)) F N hm hs hl e1 e2 e3
theorem fin_3 {g : Int × Int × Int} {x y z : Int} {t1 t2 t3 : Tok} {n : Nat} {D : Addr} (F : Fr h₀ L h' m) (N : News h₀ L h' led) (hm : (D, tup [.int x t1, .int y t2, .int z t3] n) ∈ led) (hs : ∀ p ∈ news, p ∈ led) (hl : AllLt D news) (e : (x, y, z) = g) :
    Fin gs dw os h₀ L news (R3 g) (.ret (.ref D)) ⟨h', gs, dw, tk, os⟩ := back_3 (Q := fun v s' => Fin gs dw os h₀ L news (R3 g) (.ret v) s') (fin_back (hp := h') (tk0 := tk)) F N hm hs hl e
theorem fin_gpr {b : Int} {r dr : Addr} {nm : Str} {k1 k2 k3 k4 t1 t2 t3 t4 : Tok} {n : Nat} (F : Fr h₀ L h' m) (N : News h₀ L h' led)
    (h1 : (r, instObj 255 dr) ∈ led) (h2 : (dr, regDict P nm (Str.ofString "gpr") b k1 k2 k3 k4 t1 t2 t3 t4 n) ∈ led) (hs : ∀ p ∈ news, p ∈ led) (l1 : AllLt dr news) (l2 : dr < r) (b0 : 0 ≤ b) (b1 : b ≤ 15) (e : nm = gname b) :
    Fin gs dw os h₀ L news (RG P b) (.ret (.ref r)) ⟨h', gs, dw, tk, os⟩ := back_gpr (Q := fun v s' => Fin gs dw os h₀ L news (RG P b) (.ret v) s') (fin_back (hp := h') (tk0 := tk)) F N h1 h2 hs l1 l2 b0 b1 e
theorem fin_rip {r dr : Addr} {k1 k2 k3 k4 t1 t2 t3 t4 : Tok} {n : Nat} (F : Fr h₀ L h' m) (N : News h₀ L h' led)
    (h1 : (r, instObj 255 dr) ∈ led) (h2 : (dr, regDict P (Str.ofString "rip") (Str.ofString "rip") 0 k1 k2 k3 k4 t1 t2 t3 t4 n) ∈ led) (hs : ∀ p ∈ news, p ∈ led) (l1 : AllLt dr news) (l2 : dr < r) :
    Fin gs dw os h₀ L news (RG P 16) (.ret (.ref r)) ⟨h', gs, dw, tk, os⟩ := back_rip (Q := fun v s' => Fin gs dw os h₀ L news (RG P 16) (.ret v) s') (fin_back (hp := h') (tk0 := tk)) F N h1 h2 hs l1 l2
theorem fin_l {ws : List Int} {l : Addr} {arr : Array Value} {n : Nat} (F : Fr h₀ L h' m) (N : News h₀ L h' led) (hm : (l, W.listOf arr n) ∈ led) (hs : ∀ p ∈ news, p ∈ led) (hl : AllLt l news) (hi : IntsAre arr.toList ws) :
    Fin gs dw os h₀ L news (RL ws) (.ret (.ref l)) ⟨h', gs, dw, tk, os⟩ := back_l (Q := fun v s' => Fin gs dw os h₀ L news (RL ws) (.ret v) s') (fin_back (hp := h') (tk0 := tk)) F N hm hs hl hi
theorem fin_mem {b i sc wo sz b' i' sc' : Int} {sg nm : Str} {x dx : Addr} {v1 v2 : Value} {k0 k1 k2 k3 k4 k5 k6 k7 t0 t3 t4 t5 t6 t7 : Tok} {n : Nat}
    (A1 A2 : List (Addr × Obj)) (F : Fr h₀ L h' m) (N : News h₀ L h' led) (h1 : (x, instObj 173 dx) ∈ led) (h2 : (dx, memDict P v1 v2 sc' wo sz sg nm k0 k1 k2 k3 k4 k5 k6 k7 t0 t3 t4 t5 t6 t7 n) ∈ led)
    (g1 : RegIn P A1 v1 b') (g2 : RegIn P A2 v2 i') (s1 : ∀ p ∈ A1, p ∈ led) (s2 : ∀ p ∈ A2, p ∈ led) (hs : ∀ p ∈ news, p ∈ led) (l1 : AllLt dx news) (l2 : AllLt x news) (o1 : ∀ q ∈ news, ∀ p ∈ A1, q.1 < p.1) (o2 : ∀ q ∈ news, ∀ p ∈ A2, q.1 < p.1)
    (e : (b', i', sc') = (b, i, sc)) : Fin gs dw os h₀ L news (RM P b i sc wo sz sg nm) (.ret (.ref x)) ⟨h', gs, dw, tk, os⟩ :=
  back_mem (Q := fun v s' => Fin gs dw os h₀ L news (RM P b i sc wo sz sg nm) (.ret v) s') (fin_back (hp := h') (tk0 := tk)) A1 A2 F N h1 h2 g1 g2 s1 s2 hs l1 l2 o1 o2 e
theorem fin_t8 {b i sc wo sz : Int} {m0 s1 s2 sg nm : Str} {t1 t2 t3 t4 t5 t6 t7 t8 : Tok} {n : Nat} {D : Addr} (F : Fr h₀ L h' m) (N : News h₀ L h' led)
    (hm : (D, tup [.str m0 t1, .str s1 t2, .str s2 t3, .int sc t4, .int wo t5, .int sz t6, .str sg t7, .str nm t8] n) ∈ led) (hs : ∀ p ∈ news, p ∈ led) (hl : AllLt D news) (e0 : m0 = Str.ofString "mem") (e1 : s1 = wname b) (e2 : s2 = wname i) :
    Fin gs dw os h₀ L news (RT8 b i sc wo sz sg nm) (.ret (.ref D)) ⟨h', gs, dw, tk, os⟩ := back_t8 (Q := fun v s' => Fin gs dw os h₀ L news (RT8 b i sc wo sz sg nm) (.ret v) s') (fin_back (hp := h') (tk0 := tk)) F N hm hs hl e0 e1 e2
theorem fin_grown {keep tl : List (Addr × Obj)} {fa : Addr} {o : Obj} (hR : R (.ref fa) ((fa, o) :: tl)) (F : Fr h₀ L h' m) (N : News h₀ L h' ((fa, o) :: (tl ++ keep))) (hk : ∀ p ∈ news, p ∈ keep) (hl : ∀ p ∈ news, p.1 < fa) (hord : ∀ q ∈ tl, q.1 ≠ fa ∧ ∀ p ∈ keep, p.1 < q.1) :
    Fin gs dw os h₀ L news R (.ret (.ref fa)) ⟨h', gs, dw, tk, os⟩ := back_grown (Q := fun v s' => Fin gs dw os h₀ L news R (.ret v) s') (fin_back (hp := h') (tk0 := tk)) hR F N hk hl hord
end
theorem clls_9 {K : Params → Frag} {V : Program} {TL : List Str} {w : World} {d u : Nat} {f : Addr} {vs : List Value} {G : Heap → Prop} {news : List (Addr × Obj)} {R : Value → List (Addr × Obj) → Prop}
    {mean : ExcName → Option Value} {mg mb : Str → Option Value} {dp un : Nat} {gd : Option (List Code)} {cn : Str} {cs : Scope} {a : Addr} {ccd : Value} {cl : List (Str × Addr)} {outer : List Env} {A₀ : Around} {base h₀ : Heap} {L : Addr} {m : Str → Option Value} {s : Shared} {Q E : Value → Shared → Prop}
    (B : Below A₀ base outer h₀) (F : Fr h₀ L s.heap m) (X : (K w.params).In h₀) (N : News h₀ L s.heap news) (T : Top V TL mean mg mb h₀) (hk : cs.kind = .function) (C : Clls K V TL w d u f vs G news R) (g : G base)
    (hd : dp + d < recursionLimit) (hu : un + u < cLine) (ret : Back h₀ L m news s Q R) :
    wpAny (model PySem.Challenge.rw_pb0421_01.row.prog w) (ktrTop dp un gd cn cs L a ccd cl outer) (call (.ref f) vs) Q E s := clls_use C B F X N T g hk hd hu ret
theorem rm1 {x a n : Nat} (z9h : x + a < n) : x < n := Nat.lt_of_le_of_lt (Nat.le_add_right x a) z9h
theorem rm2 {d b a n : Nat} (z9h : d + a < n) (z9e : Nat.ble b a = true) : d + b < n := Nat.lt_of_le_of_lt (Nat.add_le_add_left (Nat.le_of_ble_eq_true z9e) d) z9h
theorem rm3 {d b c a n : Nat} (z9h : d + a < n) (z9e : Nat.ble (b + c) a = true) : d + b + c < n := Nat.add_assoc d b c ▸ rm2 z9h z9e
theorem rm4 {d b c f a n : Nat} (z9h : d + a < n) (z9e : Nat.ble (b + c + f) a = true) : d + b + c + f < n := by
  rw [Nat.add_assoc, Nat.add_assoc]; exact rm2 z9h (by rw [← Nat.add_assoc]; exact z9e)
noncomputable def ownNames : List Str := ["_law_cell", "_law_meaning", "_law_is_tidy", "_law_width", "_law_bears", "_law_all", "_law_word", "_law_place", "_law_memory", "_law_length", "_law_is_needless", "_law_shapes_right", "_law_odd_right",
  "pack_three", "unpack_three", "shift_of", "Shape", "mod_of", "widths_for", "sib_for", "needs_sib", "extended_bit", "based_shapes", "has_needless_sib", "memory_shapes", "least_shape", "memory_of", "means", "gpr", "rip", "is_address_register",
  "check_base", "check_index", "check_mem", "fits_signed", "Mem"].map Str.ofString
theorem storeX_9 {M : Model} {A : Around} {E : Value → Shared → Prop} {hp : Heap} {gs : Array GenState} {dw : Drawn} {tk0 : Nat} {os : OsState} {h₀ : Heap} {L a : Addr} {m : Str → Option Value} {cn : Str} {cs : Scope} {ccd : Value} {cl : List (Str × Addr)} {x : Str} {v : Value} {Q : Unit → Shared → Prop} {news : List (Addr × Obj)} (F : Fr h₀ L hp m) (N : News h₀ L hp news)
    (h : ∀ h' tk, let m' : Str → Option Value := fun y => if y = x then some v else m y; Fr h₀ L h' m' → News h₀ L h' news → Q () ⟨h', gs, dw, tk, os⟩)
    (hk : cs.kind = .function) (hx : (envX cn cs L a ccd cl).kindOf x = some .local) : wpAny M A (storeName (envX cn cs L a ccd cl) x v) Q E ⟨hp, gs, dw, tk0, os⟩ := storeX_L (s := ⟨hp, gs, dw, tk0, os⟩) F N (fun h' F' N' => h h' _ F' N') hk hx
theorem sh1 {p : Prop} {k : Int} (h : p → 0 ≤ k ∧ k ≤ 3) (hp : p) : 0 ≤ k := (h hp).1
theorem sh2 {p : Prop} {k : Int} (h : p → 0 ≤ k ∧ k ≤ 3) (hp : p) : k ≤ 1000000 := Int.le_trans (h hp).2 (by decide)
noncomputable def SeqK (M : Model) (A : Around) (E : Value → Shared → Prop) (env : Env) (rest : List Stmt) (Q : Flow → Shared → Prop) : Flow → Shared → Prop := fun f s' => match f with
  | .next => wpAny M A (execs rest env) Q E s'
  | f => Q f s'
section
variable {M : Model} {A : Around} {E : Value → Shared → Prop} {env : Env} {rest : List Stmt} {st : Stmt} {Q : Flow → Shared → Prop} {s : Shared} {v : Value}
theorem execs_cons9 (z9h : wpAny M A (exec st env) (SeqK M A E env rest Q) E s) : wpAny M A (execs (st :: rest) env) Q E s := wpAny_execs_cons z9h
noncomputable def IfK (M : Model) (A : Around) (E : Value → Shared → Prop) (env : Env) (body orelse : List Stmt) (Q : Flow → Shared → Prop) : Bool → Shared → Prop := fun b s => if b then wpAny M A (execs body env) Q E s else wpAny M A (execs orelse env) Q E s
theorem if9 {test : Expr} {body orelse : List Stmt} {pos : Pos} (z9h : wpAny M A (isTrue test env (eval test env)) (IfK M A E env body orelse Q) E s) : wpAny M A (exec (.If test body orelse pos) env) Q E s := wpAny_If z9h
theorem if_k {b : Bool} {body orelse : List Stmt} (z9h : if b = true then wpAny M A (execs body env) Q E s else wpAny M A (execs orelse env) Q E s) : IfK M A E env body orelse Q b s := z9h
theorem seq_next (z9h : wpAny M A (execs rest env) Q E s) : SeqK M A E env rest Q .next s := z9h
theorem seq_ret (z9h : Q (.ret v) s) : SeqK M A E env rest Q (.ret v) s := z9h
theorem seq_brk (z9h : Q .brk s) : SeqK M A E env rest Q .brk s := z9h
theorem seq_cont (z9h : Q .cont s) : SeqK M A E env rest Q .cont s := z9h
end
theorem unr_9 {h₀ : Heap} {L I : Addr} {it : Obj} {rest : (Str → Option Value) → List (Addr × Obj) → Prop} {s₁ : Shared} {h' : Heap} {tk : Nat} {m' : Str → Option Value} {nn : List (Addr × Obj)} (F : Fr h₀ L h' m') (N : News h₀ L h' ((I, it) :: nn)) (hl : ∀ p ∈ nn, p.1 < I) (r : rest m' nn) :
    UnrEnd h₀ L s₁ I it rest { s₁ with heap := h', toks := tk } := UnrEnd.intro F N nn (fun _ h => h) (fun p hp => Nat.ne_of_lt (hl p hp)) r
theorem sc_no {sc : Int} (h : sc = 1 ∨ sc = 2 ∨ sc = 4 ∨ sc = 8) (k : (([{ cps := #[49] }, { cps := #[50] }, { cps := #[52] }, { cps := #[56] }] : List Str).any fun x => x == Str.ofString (toString sc)) = false) : False := by
  rcases h with rfl | rfl | rfl | rfl <;> exact absurd k (by decide +kernel)
theorem sh_no {z : Int} (h : z = 1 ∨ z = 2 ∨ z = 4 ∨ z = 8) (a : z ≠ 1 * 2 ^ (0 : Int).toNat) (b : z ≠ 1 * 2 ^ (0 + ((0 + 1 : Nat) : Int)).toNat) (c : z ≠ 1 * 2 ^ (0 + ((0 + 1 + 1 : Nat) : Int)).toNat) (d : z ≠ 1 * 2 ^ (0 + ((0 + 1 + 1 + 1 : Nat) : Int)).toNat) : False := by
  rcases h with rfl | rfl | rfl | rfl
  · exact a rfl
  · exact b rfl
  · exact c rfl
  · exact d rfl
theorem stop_l {P : Prop} (_ : OwnLoops) (h : Stop P) : P := h
theorem stop_n {P : Prop} (n : Nat) (_ : Own n) (h : Stop P) : P := h
section
variable {M : Model} {A : Around} {E : Value → Shared → Prop} {s : Shared} {Q : Value → Shared → Prop} {as : List Value}
theorem stop_427 (_ : Own 6) (h : Stop (wpAny M A (call (.ref 427) as) Q E s)) : wpAny M A (call (.ref 427) as) Q E s := h
theorem stop_434 (_ : Own 6) (h : Stop (wpAny M A (call (.ref 434) as) Q E s)) : wpAny M A (call (.ref 434) as) Q E s := h
theorem stop_530 (_ : Own 7) (h : Stop (wpAny M A (call (.ref 530) as) Q E s)) : wpAny M A (call (.ref 530) as) Q E s := h
theorem stop_ms (_ : Own 8) (h : Stop (wpAny M A (call (.ref 427) as) Q E s)) : wpAny M A (call (.ref 427) as) Q E s := h
end
theorem tm1 {x z : Str} {v e r : Option Value} {d : Decidable (z = x)} (h : z ≠ x) (k : e = r) : (@ite _ (z = x) d v e) = r := (if_neg h).trans k
theorem tm2 {c : Bool} {v e r : Option Value} {d : Decidable (c = true)} (h : c = false) (k : e = r) : (@ite _ (c = true) d v e) = r := (if_neg (Bool.eq_false_iff.mp h)).trans k
theorem Call_own {M : Model} {A : Around} {env : Env} {E : Value → Shared → Prop} {s : Shared} {x : Str} {p0 pos : Pos} {args : List Expr} {Q : Value → Shared → Prop} (_ : ownNames.elem x = true)
    (h : wpAny M A (eval (.Name x p0) env) (fun f s₁ => wpAny M A (callWith pos f [] (backTo pos (starEach args env)) []) Q E s₁) E s) : wpAny M A (eval (.Call (.Name x p0) args [] pos) env) Q E s := Call_ h
end
end Mine
end
section
open PySem PySem.W PyProof.Rows
namespace Mine
noncomputable section
noncomputable def svc (t : Nat) : Const → Option (Value × Nat)
  | .int i => some (.int i t, t + 1)
  | .str x => some (.str x t, t + 1)
  | .none => some (.none, t)
  | .bool b => some (.bool b, t)
  | _ => none
noncomputable def sv (m : Str → Option Value) (t : Nat) : Expr → Option (Value × Nat)
  | .Name x _ => (m x).bind fun v => some (v, t)
  | .Constant c _ _ => svc t c
  | _ => none
noncomputable def svs (m : Str → Option Value) (t : Nat) : List Expr → Option (List Value × Nat)
  | [] => some ([], t)
  | e :: r => (sv m t e).bind fun (v, t1) => (svs m t1 r).bind fun (vs, t2) => some (v :: vs, t2)
noncomputable def okN (names : List (Str × NameKind)) (k : NameKind) (x : Str) : Bool := decide (names.lookup x = some k) && !(x == ("__debug__" : Str))
noncomputable def okE (names : List (Str × NameKind)) : Expr → Bool
  | .Name x _ => okN names .local x
  | .Constant _ _ _ => true
  | _ => false
theorem okN.both {names : List (Str × NameKind)} {k : NameKind} {x : Str} (h : okN names k x = true) : names.lookup x = some k ∧ (x == ("__debug__" : Str)) = false :=
  ⟨of_decide_eq_true (Bool.and_eq_true_iff.mp h).1, by have := (Bool.and_eq_true_iff.mp h).2; rwa [Bool.not_eq_true'] at this⟩
section
variable {M : Model} {A : Around} {E : Value → Shared → Prop} {s : Shared} {h₀ : Heap} {L a : Addr} {m : Str → Option Value} {cn : Str} {cs : Scope} {ccd : Value} {cl : List (Str × Addr)}
theorem svc_eval {c : Const} {k : Nat} {p : Pos} {env : Env} {v : Value} {t : Nat} {Q : Value → Shared → Prop} (hv : svc s.toks c = some (v, t)) (h : Q v { s with toks := t }) : wpAny M A (eval (.Constant c k p) env) Q E s := by
  cases c <;> first
    | exact nomatch (show (none : Option (Value × Nat)) = some (v, t) from hv)
    | (obtain ⟨rfl, rfl⟩ := Prod.mk.inj (Option.some.inj hv); first | exact wpAny_Constant_int h | exact wpAny_Constant_str h | exact wpAny_Constant_none h | exact wpAny_Constant_bool h)
theorem sv_eval {e : Expr} {v : Value} {t : Nat} {Q : Value → Shared → Prop} (F : Fr h₀ L s.heap m) (hk : cs.kind = .function) (ho : okE cs.names e = true) (hv : sv m s.toks e = some (v, t)) (h : Q v { s with toks := t }) :
    wpAny M A (eval e (envX cn cs L a ccd cl)) Q E s := by
  cases e <;> first
    | exact nomatch (show (none : Option (Value × Nat)) = some (v, t) from hv)
    | exact svc_eval hv h
    | (obtain ⟨v', hm, h'⟩ := Option.bind_eq_some_iff.mp hv; obtain ⟨rfl, rfl⟩ := Prod.mk.inj (Option.some.inj h'); exact nameX_L F hm h hk (okN.both ho).1 (okN.both ho).2)
theorem sv_star {e : Expr} {names : List (Str × NameKind)} (ho : okE names e = true) (rest : List Expr) (env : Env) : starEach (e :: rest) env = (false, eval e env) :: starEach rest env := by
  cases e <;> first | rfl | exact nomatch (show false = true from ho)
theorem svs_cons {m : Str → Option Value} {t t' : Nat} {e : Expr} {r : List Expr} {vs : List Value} (hv : svs m t (e :: r) = some (vs, t')) : ∃ v t1 vs', sv m t e = some (v, t1) ∧ svs m t1 r = some (vs', t') ∧ vs = v :: vs' := by
  obtain ⟨⟨v, t1⟩, h1, h2⟩ := Option.bind_eq_some_iff.mp hv
  obtain ⟨⟨vs', t2⟩, h3, h4⟩ := Option.bind_eq_some_iff.mp h2
  obtain ⟨rfl, rfl⟩ := Prod.mk.inj (Option.some.inj h4)
  exact ⟨v, t1, vs', h1, h3, rfl⟩
theorem plain_of {names : List (Str × NameKind)} {pos : Pos} {env : Env} {es : List Expr} (ho : es.all (okE names) = true) : (backTo pos (starEach es env)).any (·.1) = false := by
  induction es with
  | nil => rfl
  | cons e r ih =>
    rw [List.all_cons, Bool.and_eq_true] at ho
    rw [sv_star ho.1 r env]
    exact ih ho.2
theorem args_sv {pos : Pos} {es : List Expr} {vs : List Value} {t : Nat} {Q : List Value → Shared → Prop} (F : Fr h₀ L s.heap m) (hk : cs.kind = .function) (ho : es.all (okE cs.names) = true) (hv : svs m s.toks es = some (vs, t)) (h : Q vs { s with toks := t }) :
    wpAny M A (spliced (backTo pos (starEach es (envX cn cs L a ccd cl)))) Q E s := by
  induction es generalizing vs s Q with
  | nil =>
    obtain ⟨rfl, rfl⟩ := Prod.mk.inj (Option.some.inj hv)
    exact args_nil h
  | cons e r ih =>
    rw [List.all_cons, Bool.and_eq_true] at ho
    obtain ⟨v, t1, vs', h1, h2, rfl⟩ := svs_cons hv
    exact args_cons (sv_eval F hk ho.1 h1 (ih (s := { s with toks := t1 }) F ho.2 h2 h)) (sv_star ho.1 r _)
end
theorem args_9 {M : Model} {A : Around} {E : Value → Shared → Prop} {hp : Heap} {gs : Array GenState} {dw : Drawn} {tk0 : Nat} {os : OsState} {h₀ : Heap} {L a : Addr} {m : Str → Option Value} {cn : Str} {cs : Scope} {ccd : Value} {cl : List (Str × Addr)} {pos : Pos} {es : List Expr} {vs : List Value} {t : Nat} {Q : List Value → Shared → Prop} (F : Fr h₀ L hp m) (hk : cs.kind = .function) (ho : es.all (okE cs.names) = true) (hv : svs m tk0 es = some (vs, t)) (h : Q vs ⟨hp, gs, dw, t, os⟩) :
    wpAny M A (spliced (backTo pos (starEach es (envX cn cs L a ccd cl)))) Q E ⟨hp, gs, dw, tk0, os⟩ := args_sv (s := ⟨hp, gs, dw, tk0, os⟩) F hk ho hv h
section
variable {w : World} {E : Value → Shared → Prop} {hp : Heap} {gs : Array GenState} {dw : Drawn} {tk0 : Nat} {os : OsState} {h₀ : Heap} {L a : Addr} {m : Str → Option Value} {cn : Str} {cs : Scope} {ccd : Value} {cl : List (Str × Addr)} {A : Around}
theorem call_sv {K : Params → Frag} {V : Program} {TL : List Str} {d u : Nat} {f : Addr} {vs : List Value} {G : Heap → Prop} {news : List (Addr × Obj)} {R : Value → List (Addr × Obj) → Prop} {x : Str} {p0 pos : Pos} {es : List Expr} {t : Nat} {Q : Value → Shared → Prop}
    {mean : ExcName → Option Value} {mg mb : Str → Option Value} {dp un : Nat} {gd : Option (List Code)} {outer : List Env} {A₀ : Around} {base : Heap}
    (B : Below A₀ base outer h₀) (F : Fr h₀ L hp m) (X : (K w.params).In h₀) (N : News h₀ L hp news) (T : Top V TL mean mg mb h₀) (hk : cs.kind = .function)
    (he : nsIn (K w.params) mainGlobals x = some (some (.ref f))) (hg : okN cs.names .globalImplicit x = true) (hf : keepIn (K w.params) (.ref f) = true) (ho : es.all (okE cs.names) = true) (hv : svs m tk0 es = some (vs, t))
    (C : Clls K V TL w d u f vs G news R) (g : G base) (hd : dp + d < recursionLimit) (hu : un + u < cLine) (ret : Back h₀ L m news ⟨hp, gs, dw, t, os⟩ Q R) :
    wpAny (model PySem.Challenge.rw_pb0421_01.row.prog w) (ktrTop dp un gd cn cs L a ccd cl outer) (eval (.Call (.Name x p0) es [] pos) (envX cn cs L a ccd cl)) Q E ⟨hp, gs, dw, tk0, os⟩ := by
  refine Call_ (nameX_K F X (topRead_of T) he ?_ hk (okN.both hg).1 (okN.both hg).2)
  have XS := X.keeps F.keep
  have fin := clls_use (s := ⟨hp, gs, dw, t, os⟩) C B (F : Fr h₀ L hp m) X N T g hk hd hu ret (E := E) (gd := gd) (cn := cn) (a := a) (ccd := ccd) (cl := cl)
  cases es with
  | nil =>
    obtain ⟨rfl, rfl⟩ := Prod.mk.inj (Option.some.inj hv)
    exact callWith_K0 XS hf fin
  | cons e r =>
    have h0 := ho
    rw [List.all_cons, Bool.and_eq_true] at ho
    exact callWith_K X hf (args_sv F hk h0 hv ⟨XS, fin⟩) (sv_star ho.1 r _) (plain_of ho.2)
end
section
variable {prog : Program} {w : World} {A : Around} {E : Value → Shared → Prop} {hp : Heap} {gs : Array GenState} {dw : Drawn} {tk0 : Nat} {os : OsState} {h₀ : Heap} {L a : Addr} {m : Str → Option Value} {cn : Str} {cs : Scope} {ccd : Value} {cl : List (Str × Addr)}
noncomputable def cmpI (a b : Int) : CmpOp → Option Bool
  | .Eq => some (a == b)
  | .NotEq => some (a != b)
  | .Lt => some (decide (a < b))
  | .LtE => some (decide (a ≤ b))
  | .Gt => some (decide (a > b))
  | .GtE => some (decide (a ≥ b))
  | _ => none
theorem cmp_int {op : CmpOp} {x y : Int} {i j : Tok} {c : Bool} {Q : Value → Shared → Prop} (hc : cmpI x y op = some c) (h : Q (.bool c) ⟨hp, gs, dw, tk0, os⟩) : wpAny (model prog w) A (compareOp op (.int x i) (.int y j)) Q E ⟨hp, gs, dw, tk0, os⟩ := by
  cases op with
  | Eq => obtain rfl := Option.some.inj hc; exact eq_int h
  | NotEq => obtain rfl := Option.some.inj hc; exact ne_int h
  | Lt => obtain rfl := Option.some.inj hc; exact lt_int h
  | LtE => obtain rfl := Option.some.inj hc; exact le_int h
  | Gt => obtain rfl := Option.some.inj hc; exact gt_int h
  | GtE => obtain rfl := Option.some.inj hc; exact ge_int h
  | _ => exact nomatch (show (none : Option Bool) = some c from hc)
theorem not_behind {op : CmpOp} {r : Expr} {names : List (Str × NameKind)} (ho : okE names r = true) : behindInMarks op r = false := by
  cases r <;> first | rfl | exact nomatch (show false = true from ho)
theorem isTrue_sv {op : CmpOp} {l r whole : _} {pos : Pos} {x y : Int} {i j : Tok} {t1 t2 : Nat} {c : Bool} {Q : Bool → Shared → Prop} (F : Fr h₀ L hp m) (hk : cs.kind = .function) (ho : (okE cs.names l && okE cs.names r) = true)
    (h1 : sv m tk0 l = some (.int x i, t1)) (h2 : sv m t1 r = some (.int y j, t2)) (hc : cmpI x y op = some c) (h : Q c ⟨hp, gs, dw, t2, os⟩) :
    wpAny (model prog w) A (isTrue (.Compare l [op] [r] pos) (envX cn cs L a ccd cl) whole) Q E ⟨hp, gs, dw, tk0, os⟩ := by
  rw [Bool.and_eq_true] at ho
  exact wpAny_isTrue_Compare1 (sv_eval F hk ho.1 h1 (sv_eval (s := ⟨hp, gs, dw, t1, os⟩) F hk ho.2 h2 (cmp_int hc (wpAny_truthy_bool h)))) (not_behind ho.2)
theorem cmp_sv {op : CmpOp} {l r : Expr} {pos : Pos} {x y : Int} {i j : Tok} {t1 t2 : Nat} {c : Bool} {Q : Value → Shared → Prop} (F : Fr h₀ L hp m) (hk : cs.kind = .function) (ho : (okE cs.names l && okE cs.names r) = true)
    (h1 : sv m tk0 l = some (.int x i, t1)) (h2 : sv m t1 r = some (.int y j, t2)) (hc : cmpI x y op = some c) (h : Q (.bool c) ⟨hp, gs, dw, t2, os⟩) :
    wpAny (model prog w) A (eval (.Compare l [op] [r] pos) (envX cn cs L a ccd cl)) Q E ⟨hp, gs, dw, tk0, os⟩ := by
  rw [Bool.and_eq_true] at ho
  exact wpAny_Compare1 (sv_eval F hk ho.1 h1 (sv_eval (s := ⟨hp, gs, dw, t1, os⟩) F hk ho.2 h2 (cmp_int hc h))) (not_behind ho.2)
theorem attr_sv {K : Frag} {x attr : Str} {xp pos : Pos} {q C : Addr} {ox : Obj} {es : List DictEntry} {n : Nat} {v : Value} {at' : Option Value} {Q : Value → Shared → Prop} (F : Fr h₀ L hp m) (hk : cs.kind = .function) (ho : okE cs.names (.Name x xp) = true) (hx : m x = some (.ref q))
    (X : K.In h₀) (I : InstAt hp q ox C (some (dictOf es n))) (hg : plainGet K C attr = true) (hh : hasDictIn K C = true)
    (ha : findIn K (.ref C) attr = some at') (hn : noGet K at' = true) (hl : getL attr es = some (some v)) (hv : handedIn v = true) (h : Q v ⟨hp, gs, dw, tk0 + 1, os⟩) :
    wpAny (model prog w) A (eval (.Attribute (.Name x xp) attr pos) (envX cn cs L a ccd cl)) Q E ⟨hp, gs, dw, tk0, os⟩ := by
  refine Attribute_Name_ (sv_eval F hk ho (v := .ref q) (t := tk0) ?_ (get_own F X I hg hh ha hn hl hv h))
  exact congrArg (fun o => o.bind fun v => some (v, tk0)) hx
end
end
section
variable {prog : Program} {w : World} {A : Around} {E : Value → Shared → Prop} {s : Shared} {h₀ : Heap} {L l : Addr} {news : List (Addr × Obj)} {value slice : PySem.Expr} {u t : Tok} {vs : List Value} {ws : List Str} {i n : Int} {k : Nat} {Q : Value → Shared → Prop}
theorem item_l9 (N : News h₀ L s.heap news) (hm : (l, W.listOf vs.toArray k) ∈ news) (hw : StrsAre vs ws) (h0 : 0 ≤ i) (h1 : i < (ws.length : Int)) (hf : i < 2 ^ 63) (h : ∀ t', i.toNat < ws.length → Q (.str (ws.getD i.toNat PySem.Str.empty) t') s)
    (hs : subscripted slice false (.ref l) (.int i u) = operate [.ref l, .int i u] (getItem (.ref l) (.int i u)) := by with_unfolding_all rfl) : wpAny (model prog w) A (subscriptTail value slice (.ref l) (.int i u)) Q E s := KTb.item_list (News.isList N hm) hw h0 h1 hf h hs
theorem lsh9 {p : Prop} (_ : Own 1) (hk : p → 0 ≤ n ∧ n ≤ 3) (hp : p) (h : Q (.int (1 * 2 ^ n.toNat) s.toks) { s with toks := s.toks + 1 }) : wpAny (model prog w) A (binaryOp .LShift (.int 1 t) (.int n u)) Q E s :=
  lshift_int_small (sh1 hk hp) (sh2 hk hp) (by decide) h
end
end Mine
end
open PySem PySem.W PyProof.Rows
namespace Mine
namespace x0
theorem tw15096335527954157600 : True := trivial
theorem tw17611384569807986784 : True := trivial
theorem tw6974889186893976704 : True := trivial
theorem tw17619046763211782304 : True := trivial
theorem tw18279656027764706528 : True := trivial
theorem tw9657658417780044064 : True := trivial
theorem tw10790641698663420288 : True := trivial
theorem tw3203872786316757408 : True := trivial
theorem tw7594275888626865600 : True := trivial
theorem tw15650391068385451520 : True := trivial
theorem tw5872646623817227808 : True := trivial
theorem tw15623718346633792 : True := trivial
theorem tw17768006618641577536 : True := trivial
theorem tw14493792740972804704 : True := trivial
theorem tw8757935091175147104 : True := trivial
theorem tw9369587722487191168 : True := trivial
theorem tw10941716405438397152 : True := trivial
theorem tw9317012645414151072 : True := trivial
theorem tw3579064800763933600 : True := trivial
theorem tw11703028910958179232 : True := trivial
theorem tw9048584053544817665 : True := trivial
theorem tw2427360948624177153 : True := trivial
theorem tw16546161892680521729 : True := trivial
theorem tw1305007803360929825 : True := trivial
theorem tw3233090451362100289 : True := trivial
theorem tw9563169622022619393 : True := trivial
theorem tw8999792098771713281 : True := trivial
theorem tw15152426153584701729 : True := trivial
theorem tw16339637089293015361 : True := trivial
theorem tw14218660118943306177 : True := trivial
theorem tw11794581490633944705 : True := trivial
theorem tw5220700982443208321 : True := trivial
theorem tw12533142783104562881 : True := trivial
theorem tw9356216203213002497 : True := trivial
theorem tw745259982366275361 : True := trivial
theorem tw17269504579804676929 : True := trivial
theorem tw15501616197594395489 : True := trivial
theorem tw13085823088041584513 : True := trivial
theorem tw16140213719815867361 : True := trivial
theorem tw13939330635239753954 : True := trivial
theorem tw961557084252914946 : True := trivial
theorem tw17934342591350043970 : True := trivial
theorem tw15981156931393504610 : True := trivial
theorem tw11712332934482352482 : True := trivial
theorem tw14768756919031353762 : True := trivial
theorem tw10529021603394907554 : True := trivial
theorem tw11467773173575892546 : True := trivial
theorem tw862113222531487330 : True := trivial
theorem tw17077109032913198786 : True := trivial
theorem tw4690668054145373986 : True := trivial
theorem tw9051248955070855970 : True := trivial
theorem tw1336922478090277730 : True := trivial
theorem tw305740069853617058 : True := trivial
theorem tw17979102132515925922 : True := trivial
theorem tw11161266552563369219 : True := trivial
theorem tw17493962574295428451 : True := trivial
theorem tw3516883074417603939 : True := trivial
theorem tw12402057037571962339 : True := trivial
theorem tw7605532152981419491 : True := trivial
theorem tw10883186324250734115 : True := trivial
theorem tw13533789316532158051 : True := trivial
theorem tw8167204413895814787 : True := trivial
theorem tw15627541763571522275 : True := trivial
theorem tw6584629691414761315 : True := trivial
theorem tw1196142414237930339 : True := trivial
theorem tw17552215024583209891 : True := trivial
theorem tw13889995079108475843 : True := trivial
theorem tw11611391448107136995 : True := trivial
theorem tw1184539869213639651 : True := trivial
theorem tw5012339931834525732 : True := trivial
theorem tw349197701464156196 : True := trivial
theorem tw3233300530505726084 : True := trivial
theorem tw5082852886514364580 : True := trivial
theorem tw18369904082364604612 : True := trivial
theorem tw4904373366174439620 : True := trivial
theorem tw3039524550955458852 : True := trivial
theorem tw13648458931232166180 : True := trivial
theorem tw5819151082784822596 : True := trivial
theorem tw14488426099538160964 : True := trivial
theorem tw8094392737013159268 : True := trivial
theorem tw10165843074624915844 : True := trivial
theorem tw1312566879854138820 : True := trivial
theorem tw17256662637665664676 : True := trivial
theorem tw2649534278370447012 : True := trivial
theorem tw14200669443801606948 : True := trivial
theorem tw11322341999969387332 : True := trivial
theorem tw7612329675271442340 : True := trivial
theorem tw3033335726370170788 : True := trivial
theorem tw6733034974873479140 : True := trivial
theorem tw17349606247270145029 : True := trivial
theorem tw9581705234298266661 : True := trivial
theorem tw11242264306289171525 : True := trivial
theorem tw9578994935302463589 : True := trivial
theorem tw13359504839477433477 : True := trivial
theorem tw10564339062337098949 : True := trivial
theorem tw6658740529026980133 : True := trivial
theorem tw1846523543349322021 : True := trivial
theorem tw10786121287670328677 : True := trivial
theorem tw5900330362442475973 : True := trivial
theorem tw12379008914842043877 : True := trivial
theorem tw3201623939806893573 : True := trivial
theorem tw2424873569140615685 : True := trivial
theorem tw17790687706530016805 : True := trivial
theorem tw16284565677953179205 : True := trivial
theorem tw13357862791955331685 : True := trivial
theorem tw17458385572284474053 : True := trivial
theorem tw597875481686189765 : True := trivial
theorem tw1532042718953724645 : True := trivial
theorem tw4308809509294671685 : True := trivial
theorem tw16381812456116522821 : True := trivial
theorem tw7894865832548838213 : True := trivial
theorem tw17401249506481218405 : True := trivial
theorem tw9031067087113673605 : True := trivial
theorem tw4457067024992124837 : True := trivial
theorem tw8636492423869185989 : True := trivial
theorem tw8323410506861502405 : True := trivial
theorem tw10098976372334777350 : True := trivial
theorem tw5434980165105353766 : True := trivial
theorem tw4840638455409942630 : True := trivial
theorem tw7003739986254841990 : True := trivial
theorem tw15020171661598836902 : True := trivial
theorem tw4795785632971966630 : True := trivial
theorem tw11987162256204385478 : True := trivial
theorem tw5695163373675674854 : True := trivial
theorem tw5004669719546092838 : True := trivial
theorem tw16612776870077656390 : True := trivial
theorem tw1549838962924426630 : True := trivial
theorem tw12867200403794926022 : True := trivial
theorem tw12401894721387999878 : True := trivial
theorem tw1283182939107060390 : True := trivial
theorem tw16410327716429475590 : True := trivial
theorem tw13047259775376997350 : True := trivial
theorem tw7989765892604309511 : True := trivial
theorem tw10604639425047358503 : True := trivial
theorem tw2321130022622869607 : True := trivial
theorem tw10073080639784476775 : True := trivial
theorem tw528174912991986855 : True := trivial
theorem tw15884060002917538983 : True := trivial
theorem tw5533963070743625991 : True := trivial
theorem tw12002962297125719335 : True := trivial
theorem tw5024194031432395047 : True := trivial
theorem tw18165884063334139335 : True := trivial
theorem tw2032342653293565415 : True := trivial
theorem tw13888941212200903175 : True := trivial
theorem tw14225823527191075335 : True := trivial
theorem tw1260778142880322087 : True := trivial
theorem tw12508883107607733831 : True := trivial
theorem tw3587864859260667527 : True := trivial
theorem tw4159334859953372807 : True := trivial
theorem tw15878795626032773895 : True := trivial
theorem tw4295212411871710983 : True := trivial
theorem tw15459134582733010727 : True := trivial
theorem tw11244600796699212615 : True := trivial
theorem tw3815563633717072711 : True := trivial
theorem tw4281542660835135431 : True := trivial
theorem tw9508241358419266600 : True := trivial
theorem tw11874085624112392328 : True := trivial
theorem tw6429720513430645896 : True := trivial
theorem tw7809948183878831336 : True := trivial
theorem tw18079893958428966184 : True := trivial
theorem tw4587361562987035944 : True := trivial
theorem tw8171786255350247816 : True := trivial
theorem tw9636660478920409480 : True := trivial
theorem tw15189594724298110408 : True := trivial
theorem tw16685744653761934792 : True := trivial
theorem tw2359022596960197096 : True := trivial
theorem tw11679671768018204136 : True := trivial
theorem tw9142569012060966408 : True := trivial
theorem tw5048836473301816872 : True := trivial
theorem tw16588325505136264968 : True := trivial
theorem tw9694060389190956872 : True := trivial
theorem tw919738933299378024 : True := trivial
theorem tw11685324352743129064 : True := trivial
theorem tw954863362827811816 : True := trivial
theorem tw3671422791465993257 : True := trivial
theorem tw3073329605654640681 : True := trivial
theorem tw13456598211156416617 : True := trivial
theorem tw9359756124028410985 : True := trivial
theorem tw9196344452086165801 : True := trivial
theorem tw17855629337241274729 : True := trivial
theorem tw8731240906608095689 : True := trivial
theorem tw17211746576075560457 : True := trivial
theorem tw3666802571955439273 : True := trivial
theorem tw11614079984401493705 : True := trivial
theorem tw5830028728176760585 : True := trivial
theorem tw17390137206103896841 : True := trivial
theorem tw16289644147757670217 : True := trivial
theorem tw17284714972051486601 : True := trivial
theorem tw567704662106847177 : True := trivial
theorem tw13707305898275394505 : True := trivial
theorem tw9362009548395898825 : True := trivial
theorem tw4786618621198129129 : True := trivial
theorem tw18123712378518054154 : True := trivial
theorem tw17450190987257100586 : True := trivial
theorem tw7752997200599308714 : True := trivial
theorem tw3743307728971253194 : True := trivial
theorem tw8162255654336974314 : True := trivial
theorem tw3346664906862080522 : True := trivial
theorem tw7969741717547833898 : True := trivial
theorem tw8971878046141177514 : True := trivial
theorem tw14348834759234555594 : True := trivial
theorem tw15198773465834460938 : True := trivial
theorem tw1508540195853073194 : True := trivial
theorem tw2484978716395644746 : True := trivial
theorem tw9815202882607017802 : True := trivial
theorem tw5313277255594428266 : True := trivial
theorem tw10356611144212270954 : True := trivial
theorem tw2068710971161564042 : True := trivial
theorem tw8765804692289288138 : True := trivial
theorem tw14420053522791348235 : True := trivial
theorem tw789501504453506059 : True := trivial
theorem tw2552486940500067371 : True := trivial
theorem tw8465925397193546955 : True := trivial
theorem tw18430378605758317803 : True := trivial
theorem tw8972676528902315275 : True := trivial
theorem tw4511002947000387851 : True := trivial
theorem tw5875373642932426027 : True := trivial
theorem tw16146560017570315595 : True := trivial
theorem tw11681842298348893547 : True := trivial
theorem tw14234878701673975179 : True := trivial
theorem tw11029333832400148875 : True := trivial
theorem tw7028209860024327563 : True := trivial
theorem tw4691132282079697323 : True := trivial
theorem tw8170976965936722411 : True := trivial
theorem tw16928534092343244267 : True := trivial
theorem tw14450114844202539595 : True := trivial
theorem tw7158658469868447307 : True := trivial
theorem tw5371465633638811339 : True := trivial
theorem tw6679949264787614507 : True := trivial
theorem tw1054736941010361195 : True := trivial
theorem tw17629813409563404139 : True := trivial
theorem tw14202271753835211627 : True := trivial
theorem tw10335076796580905931 : True := trivial
theorem tw5098965278933871563 : True := trivial
theorem tw8411731138889752588 : True := trivial
theorem tw17142305139997302828 : True := trivial
theorem tw14258854717158913132 : True := trivial
theorem tw7859673931009210700 : True := trivial
theorem tw9737610531032924716 : True := trivial
theorem tw11822691658298436140 : True := trivial
theorem tw11739148696316901932 : True := trivial
theorem tw10204538900022900332 : True := trivial
theorem tw3636657748022887052 : True := trivial
theorem tw15248873261711472556 : True := trivial
theorem tw14631953672828380108 : True := trivial
theorem tw517639174539120653 : True := trivial
theorem tw10839830215887783981 : True := trivial
theorem tw7114754081129255981 : True := trivial
theorem tw2182911647205300333 : True := trivial
theorem tw12027409601262328941 : True := trivial
theorem tw11662737865778538637 : True := trivial
theorem tw14140809651010148589 : True := trivial
theorem tw2065367704003932589 : True := trivial
theorem tw14875267771937860077 : True := trivial
theorem tw5861675067817538029 : True := trivial
theorem tw3730681508811249229 : True := trivial
theorem tw13094904279435165261 : True := trivial
theorem tw15818386835910843981 : True := trivial
theorem tw365925242748106317 : True := trivial
theorem tw6269994209691170413 : True := trivial
theorem tw10181323487653520077 : True := trivial
theorem tw9896850755802758861 : True := trivial
theorem tw2082711233233859309 : True := trivial
theorem tw6827123687669871469 : True := trivial
theorem tw15276818862561676141 : True := trivial
theorem tw16407320484292295533 : True := trivial
theorem tw11469217474296001421 : True := trivial
theorem tw6851148447137581997 : True := trivial
theorem tw471762524540776429 : True := trivial
theorem tw6537202238137783406 : True := trivial
theorem tw1364263682017608846 : True := trivial
theorem tw13994648466059481262 : True := trivial
theorem tw6808756170126029998 : True := trivial
theorem tw1283768032061715662 : True := trivial
theorem tw13050147174451388686 : True := trivial
theorem tw6677027709390938574 : True := trivial
theorem tw17190855961387994606 : True := trivial
theorem tw8580254432159811086 : True := trivial
theorem tw5516029395972345358 : True := trivial
theorem tw3841142768373695086 : True := trivial
theorem tw13852041042255133358 : True := trivial
theorem tw10496980648395457294 : True := trivial
theorem tw4167662276032721710 : True := trivial
theorem tw1908835519066910542 : True := trivial
theorem tw18281262934807134062 : True := trivial
theorem tw1104118726348440494 : True := trivial
theorem tw7357303241966552046 : True := trivial
theorem tw12371355746861370350 : True := trivial
theorem tw1964373381589373999 : True := trivial
theorem tw14823711230318512271 : True := trivial
theorem tw8483401512946095375 : True := trivial
theorem tw10891924309233707311 : True := trivial
theorem tw6852160699586295087 : True := trivial
theorem tw4141030662594922895 : True := trivial
theorem tw11456158730581063087 : True := trivial
theorem tw3163164051827210671 : True := trivial
theorem tw17530000412897427919 : True := trivial
theorem tw6343622460072451631 : True := trivial
theorem tw10674318365000156815 : True := trivial
theorem tw16616625297650801295 : True := trivial
theorem tw2889090884799623855 : True := trivial
theorem tw5867602735172677359 : True := trivial
theorem tw17067417925942201071 : True := trivial
theorem tw8682818181572798223 : True := trivial
theorem tw15701660337709328400 : True := trivial
theorem tw5886359590813526064 : True := trivial
theorem tw11907253936843980944 : True := trivial
theorem tw16468739734833071248 : True := trivial
theorem tw10378426400149777648 : True := trivial
theorem tw8193100537455464720 : True := trivial
theorem tw7802231266656589168 : True := trivial
theorem tw10313823791988154800 : True := trivial
theorem tw1183404251362467312 : True := trivial
theorem tw17697197333068599824 : True := trivial
theorem tw524569830084681264 : True := trivial
theorem tw13699155787127541296 : True := trivial
theorem tw7658111321635241552 : True := trivial
theorem tw12861481870219322032 : True := trivial
theorem tw16436822039670268688 : True := trivial
theorem tw5464964579288221488 : True := trivial
theorem tw13028977804754623312 : True := trivial
theorem tw5255930905001597808 : True := trivial
theorem tw3141291499939322832 : True := trivial
theorem tw7316854240532007985 : True := trivial
theorem tw12311494736175197361 : True := trivial
theorem tw13028627307311629521 : True := trivial
theorem tw15201975593064075473 : True := trivial
theorem tw9996148009489393969 : True := trivial
theorem tw5288582030218743185 : True := trivial
theorem tw3582859491322160561 : True := trivial
theorem tw1774540821845575121 : True := trivial
theorem tw746449147634731537 : True := trivial
theorem tw10950366093629137457 : True := trivial
theorem tw13256871642681013873 : True := trivial
theorem tw4596690568756289169 : True := trivial
theorem tw11945818506885502705 : True := trivial
theorem tw12666586021445867249 : True := trivial
theorem tw2923257151926013713 : True := trivial
theorem tw3285159572933642065 : True := trivial
theorem tw4396378939234265009 : True := trivial
theorem tw9288909160110385073 : True := trivial
theorem tw17282966928087395378 : True := trivial
theorem tw14513374567936771122 : True := trivial
theorem tw11259322279704547442 : True := trivial
theorem tw18434353516017032402 : True := trivial
theorem tw15386801452748723570 : True := trivial
theorem tw14358623435105153522 : True := trivial
theorem tw137117645842053650 : True := trivial
theorem tw8184152521197786738 : True := trivial
theorem tw14680155555697627794 : True := trivial
theorem tw11745216475679072914 : True := trivial
theorem tw2856824293258551954 : True := trivial
theorem tw8527349454353233618 : True := trivial
theorem tw12771583649850353426 : True := trivial
theorem tw15770956551563332402 : True := trivial
theorem tw14046471216744616818 : True := trivial
theorem tw3541970555596006290 : True := trivial
theorem tw13157930804816118770 : True := trivial
theorem tw12951675596492683250 : True := trivial
theorem tw16682004044619189267 : True := trivial
theorem tw5410815161618964531 : True := trivial
theorem tw419155729302076627 : True := trivial
theorem tw13971397324535424275 : True := trivial
theorem tw7086959698633084243 : True := trivial
theorem tw5619437954300197267 : True := trivial
theorem tw5585606889146769811 : True := trivial
theorem tw2273989602976504339 : True := trivial
theorem tw1295504495188489747 : True := trivial
theorem tw3801344203532067379 : True := trivial
theorem tw15601740174779410067 : True := trivial
theorem tw16521403729728466643 : True := trivial
theorem tw844405380149498579 : True := trivial
theorem tw17449374981621748467 : True := trivial
theorem tw1865543454174651155 : True := trivial
theorem tw12198316208961468211 : True := trivial
theorem tw8788985176401608499 : True := trivial
theorem tw10783157389775211379 : True := trivial
theorem tw6017996283376893811 : True := trivial
theorem tw2056663909288128499 : True := trivial
theorem tw14198638107162236020 : True := trivial
theorem tw7175476417027778900 : True := trivial
theorem tw8924831274297949588 : True := trivial
theorem tw641126737721812 : True := trivial
theorem tw2894123182225946068 : True := trivial
theorem tw14060950789133167092 : True := trivial
theorem tw3493421194979509780 : True := trivial
theorem tw15158636797483049684 : True := trivial
theorem tw13621485197505988308 : True := trivial
theorem tw13378487991145978580 : True := trivial
theorem tw4496182959254757108 : True := trivial
theorem tw13724523387322565460 : True := trivial
theorem tw18197613194258553716 : True := trivial
theorem tw4780031234333983604 : True := trivial
theorem tw635564671046611892 : True := trivial
theorem tw4896704782401019957 : True := trivial
theorem tw17115221211208836149 : True := trivial
theorem tw9210630444342448213 : True := trivial
theorem tw3740487151194384693 : True := trivial
theorem tw1299366051655276917 : True := trivial
theorem tw7615051784773587317 : True := trivial
theorem tw17548393904223834645 : True := trivial
theorem tw10020557273483901461 : True := trivial
theorem tw6140806683089728053 : True := trivial
theorem tw16829079504427810453 : True := trivial
theorem tw13385005462030951221 : True := trivial
theorem tw8392730441929299765 : True := trivial
theorem tw9052013673701490517 : True := trivial
theorem tw13879785387066551157 : True := trivial
theorem tw6096669087947420533 : True := trivial
theorem tw9084433087767797653 : True := trivial
theorem tw11022072635972654037 : True := trivial
theorem tw9748236832697757718 : True := trivial
theorem tw16022202720834543670 : True := trivial
theorem tw13624623077962432598 : True := trivial
theorem tw6684721057920403606 : True := trivial
theorem tw13659209608534247606 : True := trivial
theorem tw3620750974605231414 : True := trivial
theorem tw2538324526599156022 : True := trivial
theorem tw3937057411628541334 : True := trivial
theorem tw15827180345929197974 : True := trivial
theorem tw10607033969738985910 : True := trivial
theorem tw18279869261475406454 : True := trivial
theorem tw255033043963940502 : True := trivial
theorem tw12790009878178346678 : True := trivial
theorem tw13623860541005362998 : True := trivial
theorem tw8664762519796220758 : True := trivial
theorem tw13588074249255459766 : True := trivial
theorem tw6538106994109184023 : True := trivial
theorem tw15716326005264656439 : True := trivial
theorem tw18045255293860669527 : True := trivial
theorem tw501371067716990039 : True := trivial
theorem tw302646158285360311 : True := trivial
theorem tw2405289169589173655 : True := trivial
theorem tw11303196109377813943 : True := trivial
theorem tw5756846717006460407 : True := trivial
theorem tw13848450692802167351 : True := trivial
theorem tw4096240394012059223 : True := trivial
theorem tw16773675234927152759 : True := trivial
theorem tw2861288656863351479 : True := trivial
theorem tw8529790226115985079 : True := trivial
theorem tw12049733286368606967 : True := trivial
theorem tw14926310455450374967 : True := trivial
theorem tw5155987026346699703 : True := trivial
theorem tw5716048750503303127 : True := trivial
theorem tw4072069875713007607 : True := trivial
theorem tw11829541196541376536 : True := trivial
theorem tw12514396239887701048 : True := trivial
theorem tw10927170487193837656 : True := trivial
theorem tw6276658704083139704 : True := trivial
theorem tw6176323791883106456 : True := trivial
theorem tw15670247084195284184 : True := trivial
theorem tw2826055879176095000 : True := trivial
theorem tw629200875716785464 : True := trivial
theorem tw11380162605748012376 : True := trivial
theorem tw18061095834818256248 : True := trivial
theorem tw3293489841203275160 : True := trivial
theorem tw6272364543774061048 : True := trivial
theorem tw13732554224376747544 : True := trivial
theorem tw7302340039274286616 : True := trivial
theorem tw1615566061176275608 : True := trivial
theorem tw4125722841061546680 : True := trivial
theorem tw7335142758146293464 : True := trivial
theorem tw16170576833607949016 : True := trivial
theorem tw17297499471218572056 : True := trivial
theorem tw3958044485438245784 : True := trivial
theorem tw12945314762483354584 : True := trivial
theorem tw3227517685369172952 : True := trivial
theorem tw16224058478042348536 : True := trivial
theorem tw911430101621719129 : True := trivial
theorem tw905391423713985689 : True := trivial
theorem tw3139672329200431257 : True := trivial
theorem tw1110328885195208857 : True := trivial
theorem tw3731507142874200217 : True := trivial
theorem tw339837710660542681 : True := trivial
theorem tw17391784867826321625 : True := trivial
theorem tw6857921440736976121 : True := trivial
theorem tw9947006441348513081 : True := trivial
theorem tw4026636896060201273 : True := trivial
theorem tw16557964558980688217 : True := trivial
theorem tw14837078569817478745 : True := trivial
theorem tw6010043477640868569 : True := trivial
theorem tw6920057979474117369 : True := trivial
theorem tw8382044599505225465 : True := trivial
theorem tw16018755560477365017 : True := trivial
theorem tw5888405536944011193 : True := trivial
theorem tw15168756178170382329 : True := trivial
theorem tw7290204873007583225 : True := trivial
theorem tw11182309016166819866 : True := trivial
theorem tw15063556708852418618 : True := trivial
theorem tw2725757042159128698 : True := trivial
theorem tw166971958556185818 : True := trivial
theorem tw7901375151685415130 : True := trivial
theorem tw2547869246160739578 : True := trivial
theorem tw2346592920067915002 : True := trivial
theorem tw7222208953184068890 : True := trivial
theorem tw193197984118516058 : True := trivial
theorem tw363938045482940794 : True := trivial
theorem tw17679390904920813978 : True := trivial
theorem tw18420626073024677274 : True := trivial
theorem tw5500838045747596698 : True := trivial
theorem tw12150777832262838842 : True := trivial
theorem tw6956930798431785562 : True := trivial
theorem tw17455072768690462298 : True := trivial
theorem tw14665030566855274106 : True := trivial
theorem tw7710217428679440058 : True := trivial
theorem tw5930256337031847738 : True := trivial
theorem tw11815486475977247578 : True := trivial
theorem tw2992184611173609338 : True := trivial
theorem tw18169943177811472314 : True := trivial
theorem tw308291854982019034 : True := trivial
theorem tw13162732705499227195 : True := trivial
theorem tw18042330571432366235 : True := trivial
theorem tw1427485794182143131 : True := trivial
theorem tw5982699322917450011 : True := trivial
theorem tw13426869085112490299 : True := trivial
theorem tw968677507698908507 : True := trivial
theorem tw2181121468723394939 : True := trivial
theorem tw3847856395488101819 : True := trivial
theorem tw9181701300640542139 : True := trivial
theorem tw16963349681040251451 : True := trivial
theorem tw2770595293455002299 : True := trivial
theorem tw4847423702148646651 : True := trivial
theorem tw9285046526889692923 : True := trivial
theorem tw10397917055600729851 : True := trivial
theorem tw1900613552358663228 : True := trivial
theorem tw9868954053652071516 : True := trivial
theorem tw2121091893392370780 : True := trivial
theorem tw706565213857768572 : True := trivial
theorem tw5391901727003879580 : True := trivial
theorem tw15191698209315631260 : True := trivial
theorem tw9481470747193692348 : True := trivial
theorem tw12585083038300279004 : True := trivial
theorem tw5104330343484950780 : True := trivial
theorem tw1540276391383330204 : True := trivial
theorem tw2971374769648943580 : True := trivial
theorem tw8217012857835614780 : True := trivial
theorem tw12191935797874088636 : True := trivial
theorem tw7336593188025500380 : True := trivial
theorem tw10237789292215184252 : True := trivial
theorem tw15011619508644924284 : True := trivial
theorem tw13345865202901024636 : True := trivial
theorem tw2295420156648911804 : True := trivial
theorem tw12090203280395484124 : True := trivial
theorem tw6665217304149555293 : True := trivial
theorem tw10629225434293128349 : True := trivial
theorem tw6189923619008495997 : True := trivial
theorem tw12431544608743048637 : True := trivial
theorem tw902474755228826205 : True := trivial
theorem tw15984144441791352477 : True := trivial
theorem tw10565672993738866365 : True := trivial
theorem tw4403732671150512989 : True := trivial
theorem tw9332581369786151805 : True := trivial
theorem tw6815950321983237021 : True := trivial
theorem tw16197541481018448797 : True := trivial
theorem tw10663821684820323261 : True := trivial
theorem tw8895046629538888637 : True := trivial
theorem tw10218056954280166430 : True := trivial
theorem tw8680372054484215902 : True := trivial
theorem tw17549136764985351326 : True := trivial
theorem tw7395157068470945054 : True := trivial
theorem tw4151715864114518302 : True := trivial
theorem tw4454701650729510302 : True := trivial
theorem tw10879458098112962110 : True := trivial
theorem tw4537620481109503550 : True := trivial
theorem tw3139398201547368094 : True := trivial
theorem tw9740881703125565118 : True := trivial
theorem tw14292824600650438334 : True := trivial
theorem tw8266336557195682590 : True := trivial
theorem tw4180942803357871998 : True := trivial
theorem tw3646140680012740542 : True := trivial
theorem tw11324861063186220095 : True := trivial
theorem tw10929675386209610879 : True := trivial
theorem tw6330610539909867711 : True := trivial
theorem tw2491117537448047839 : True := trivial
theorem tw4789395581337484735 : True := trivial
theorem tw1752151188074950079 : True := trivial
theorem tw6360131219273357791 : True := trivial
theorem tw16952928827594468991 : True := trivial
theorem tw8477936132296804063 : True := trivial
theorem tw10149534772583288607 : True := trivial
theorem tw8822423461386134335 : True := trivial
theorem tw16879820449233655615 : True := trivial
theorem tw10221492815722927967 : True := trivial
theorem tw16904795662865000287 : True := trivial
theorem tw1541663767189841823 : True := trivial
theorem tw14140121109800752031 : True := trivial
theorem tw3875222989840425887 : True := trivial
theorem tw2611736583022180287 : True := trivial
theorem tw7318946930883031985 : True := trivial
theorem tw9889100253514720021 : True := trivial
end x0
noncomputable section
@[irreducible] noncomputable def C_gpr (K : Params → Frag) (V : Program) (TL : List Str) (w : World) : Prop := ∀ {news : List (Addr × Obj)} {n : Int} {t1 t2 : Tok} (z9hn : 0 ≤ n ∧ n ≤ 15), Clls K V TL w 5 200 280 [.int n t1, .int 64 t2] GT news (RG w.params n)
theorem C_gpr.use {K : Params → Frag} {V : Program} {TL : List Str} {w : World} (z9c : C_gpr K V TL w) : ∀ {news : List (Addr × Obj)} {n : Int} {t1 t2 : Tok} (z9hn : 0 ≤ n ∧ n ≤ 15), Clls K V TL w 5 200 280 [.int n t1, .int 64 t2] GT news (RG w.params n) := by with_unfolding_all exact z9c
@[irreducible] noncomputable def C_word (K : Params → Frag) (V : Program) (TL : List Str) (w : World) : Prop := ∀ {news : List (Addr × Obj)} {n : Int} {t : Tok} (z9hn : -1 ≤ n ∧ n ≤ 16), Clls K V TL w 4 200 497 [.int n t] GT news (RS (wname n))
theorem C_word.use {K : Params → Frag} {V : Program} {TL : List Str} {w : World} (z9c : C_word K V TL w) : ∀ {news : List (Addr × Obj)} {n : Int} {t : Tok} (z9hn : -1 ≤ n ∧ n ≤ 16), Clls K V TL w 4 200 497 [.int n t] GT news (RS (wname n)) := by with_unfolding_all exact z9c
@[irreducible] noncomputable def C_mkmem7 (K : Params → Frag) (V : Program) (TL : List Str) (w : World) : Prop := ∀ {news : List (Addr × Obj)} {v1 v2 : Value} {b i sc wo sz : Int} {sg nm : Str} {s3 s4 s5 s6 s7 : Tok} (z9h1 : RegIn w.params news v1 b) (z9h2 : RegIn w.params news v2 i), Clls K V TL w 6 200 173 [v1, v2, .int sc s3, .int wo s4, .int sz s5, .str sg s6, .str nm s7] GT news (RMEM w.params v1 v2 sc wo sz sg nm)
theorem C_mkmem7.use {K : Params → Frag} {V : Program} {TL : List Str} {w : World} (z9c : C_mkmem7 K V TL w) : ∀ {news : List (Addr × Obj)} {v1 v2 : Value} {b i sc wo sz : Int} {sg nm : Str} {s3 s4 s5 s6 s7 : Tok} (z9h1 : RegIn w.params news v1 b) (z9h2 : RegIn w.params news v2 i), Clls K V TL w 6 200 173 [v1, v2, .int sc s3, .int wo s4, .int sz s5, .str sg s6, .str nm s7] GT news (RMEM w.params v1 v2 sc wo sz sg nm) := by with_unfolding_all exact z9c
@[irreducible] noncomputable def C_rip (K : Params → Frag) (V : Program) (TL : List Str) (w : World) : Prop := ∀ {news : List (Addr × Obj)}, Clls K V TL w 5 200 287 [] GT news (RG w.params 16)
theorem C_rip.use {K : Params → Frag} {V : Program} {TL : List Str} {w : World} (z9c : C_rip K V TL w) : ∀ {news : List (Addr × Obj)}, Clls K V TL w 5 200 287 [] GT news (RG w.params 16) := by with_unfolding_all exact z9c
@[irreducible] noncomputable def C_lmem (K : Params → Frag) (V : Program) (TL : List Str) (w : World) : Prop := ∀ {news : List (Addr × Obj)} {D : Addr} {b i sc wo sz : Int} {nm : Str} {t1 t2 t3 t4 t5 t6 : Tok} {n : Nat} (z9hD : (D, tup [.int b t1, .int i t2, .int sc t3] n) ∈ news) (z9hb : -1 ≤ b ∧ b ≤ 16) (z9hi : -1 ≤ i ∧ i ≤ 15), Clls K V TL w 9 500 511 [.ref D, .int wo t4, .int sz t5, .str nm t6] GT news (RM w.params b i sc wo sz (Str.ofString "") nm)
theorem C_lmem.use {K : Params → Frag} {V : Program} {TL : List Str} {w : World} (z9c : C_lmem K V TL w) : ∀ {news : List (Addr × Obj)} {D : Addr} {b i sc wo sz : Int} {nm : Str} {t1 t2 t3 t4 t5 t6 : Tok} {n : Nat} (z9hD : (D, tup [.int b t1, .int i t2, .int sc t3] n) ∈ news) (z9hb : -1 ≤ b ∧ b ≤ 16) (z9hi : -1 ≤ i ∧ i ≤ 15), Clls K V TL w 9 500 511 [.ref D, .int wo t4, .int sz t5, .str nm t6] GT news (RM w.params b i sc wo sz (Str.ofString "") nm) := by with_unfolding_all exact z9c
@[irreducible] noncomputable def C_extbit (K : Params → Frag) (V : Program) (TL : List Str) (w : World) : Prop := ∀ {news : List (Addr × Obj)} {v : Value} {b : Int} (z9h : RegIn w.params news v b), Clls K V TL w 4 100 406 [v] GT news (RI (ext b))
theorem C_extbit.use {K : Params → Frag} {V : Program} {TL : List Str} {w : World} (z9c : C_extbit K V TL w) : ∀ {news : List (Addr × Obj)} {v : Value} {b : Int} (z9h : RegIn w.params news v b), Clls K V TL w 4 100 406 [v] GT news (RI (ext b)) := by with_unfolding_all exact z9c
@[irreducible] noncomputable def C_needs (K : Params → Frag) (V : Program) (TL : List Str) (w : World) : Prop := ∀ {news : List (Addr × Obj)} {v : Value} {b i sc wo sz : Int} {sg nm : Str} (z9hm : MemIn w.params news v b i sc wo sz sg nm), Clls K V TL w 5 200 399 [v] GT news (RB (needsSib b i))
theorem C_needs.use {K : Params → Frag} {V : Program} {TL : List Str} {w : World} (z9c : C_needs K V TL w) : ∀ {news : List (Addr × Obj)} {v : Value} {b i sc wo sz : Int} {sg nm : Str} (z9hm : MemIn w.params news v b i sc wo sz sg nm), Clls K V TL w 5 200 399 [v] GT news (RB (needsSib b i)) := by with_unfolding_all exact z9c
@[irreducible] noncomputable def C_pack (K : Params → Frag) (V : Program) (TL : List Str) (w : World) : Prop := ∀ {news : List (Addr × Obj)} {a1 b1 c1 : Int} {t1 t2 t3 : Tok} (z9h : 0 ≤ a1 ∧ a1 ≤ 3 ∧ 0 ≤ b1 ∧ b1 ≤ 7 ∧ 0 ≤ c1 ∧ c1 ≤ 7), Clls K V TL w 2 20 294 [.int a1 t1, .int b1 t2, .int c1 t3] GT news (RI (a1 * 64 + b1 * 8 + c1))
theorem C_pack.use {K : Params → Frag} {V : Program} {TL : List Str} {w : World} (z9c : C_pack K V TL w) : ∀ {news : List (Addr × Obj)} {a1 b1 c1 : Int} {t1 t2 t3 : Tok} (z9h : 0 ≤ a1 ∧ a1 ≤ 3 ∧ 0 ≤ b1 ∧ b1 ≤ 7 ∧ 0 ≤ c1 ∧ c1 ≤ 7), Clls K V TL w 2 20 294 [.int a1 t1, .int b1 t2, .int c1 t3] GT news (RI (a1 * 64 + b1 * 8 + c1)) := by with_unfolding_all exact z9c
@[irreducible] noncomputable def C_shift (K : Params → Frag) (V : Program) (TL : List Str) (w : World) : Prop := ∀ {news : List (Addr × Obj)} {z : Int} {t1 : Tok} (z9hz : z = 1 ∨ z = 2 ∨ z = 4 ∨ z = 8), Clls K V TL w 2 20 322 [.int z t1] GT news (RI (shiftOf z))
theorem C_shift.use {K : Params → Frag} {V : Program} {TL : List Str} {w : World} (z9c : C_shift K V TL w) : ∀ {news : List (Addr × Obj)} {z : Int} {t1 : Tok} (z9hz : z = 1 ∨ z = 2 ∨ z = 4 ∨ z = 8), Clls K V TL w 2 20 322 [.int z t1] GT news (RI (shiftOf z)) := by with_unfolding_all exact z9c
@[irreducible] noncomputable def C_sibfor (K : Params → Frag) (V : Program) (TL : List Str) (w : World) : Prop := ∀ {news : List (Addr × Obj)} {v : Value} {b i sc wo sz : Int} {sg nm : Str} (z9hm : MemIn w.params news v b i sc wo sz sg nm) (z9hb16 : b ≠ 16) (z9hi16 : i ≠ 16) (z9hsc : sc = 1 ∨ sc = 2 ∨ sc = 4 ∨ sc = 8), Clls K V TL w 5 200 392 [v] GT news (RI (sibOf b i sc))
theorem C_sibfor.use {K : Params → Frag} {V : Program} {TL : List Str} {w : World} (z9c : C_sibfor K V TL w) : ∀ {news : List (Addr × Obj)} {v : Value} {b i sc wo sz : Int} {sg nm : Str} (z9hm : MemIn w.params news v b i sc wo sz sg nm) (z9hb16 : b ≠ 16) (z9hi16 : i ≠ 16) (z9hsc : sc = 1 ∨ sc = 2 ∨ sc = 4 ∨ sc = 8), Clls K V TL w 5 200 392 [v] GT news (RI (sibOf b i sc)) := by with_unfolding_all exact z9c
@[irreducible] noncomputable def C_fits8 (K : Params → Frag) (V : Program) (TL : List Str) (w : World) : Prop := ∀ {news : List (Addr × Obj)} {n : Int} {t1 t2 : Tok}, Clls K V TL w 2 100 80 [.int n t1, .int 8 t2] GT news (RB (decide (-128 ≤ n) && decide (n < 128)))
theorem C_fits8.use {K : Params → Frag} {V : Program} {TL : List Str} {w : World} (z9c : C_fits8 K V TL w) : ∀ {news : List (Addr × Obj)} {n : Int} {t1 t2 : Tok}, Clls K V TL w 2 100 80 [.int n t1, .int 8 t2] GT news (RB (decide (-128 ≤ n) && decide (n < 128))) := by with_unfolding_all exact z9c
@[irreducible] noncomputable def C_widthsfor (K : Params → Frag) (V : Program) (TL : List Str) (w : World) : Prop := ∀ {news : List (Addr × Obj)} {v : Value} {b i sc wo sz : Int} {sg nm : Str} (z9hm : MemIn w.params news v b i sc wo sz sg nm) (z9hb16 : 0 ≤ b ∧ b ≤ 15), Clls K V TL w 5 200 385 [v] GT news (RL (widths b wo (nm != Str.ofString "")))
theorem C_widthsfor.use {K : Params → Frag} {V : Program} {TL : List Str} {w : World} (z9c : C_widthsfor K V TL w) : ∀ {news : List (Addr × Obj)} {v : Value} {b i sc wo sz : Int} {sg nm : Str} (z9hm : MemIn w.params news v b i sc wo sz sg nm) (z9hb16 : 0 ≤ b ∧ b ≤ 15), Clls K V TL w 5 200 385 [v] GT news (RL (widths b wo (nm != Str.ofString ""))) := by with_unfolding_all exact z9c
@[irreducible] noncomputable def C_modof (K : Params → Frag) (V : Program) (TL : List Str) (w : World) : Prop := ∀ {news : List (Addr × Obj)} {z : Int} {t1 : Tok}, Clls K V TL w 2 20 378 [.int z t1] GT news (RI (modOf z))
theorem C_modof.use {K : Params → Frag} {V : Program} {TL : List Str} {w : World} (z9c : C_modof K V TL w) : ∀ {news : List (Addr × Obj)} {z : Int} {t1 : Tok}, Clls K V TL w 2 20 378 [.int z t1] GT news (RI (modOf z)) := by with_unfolding_all exact z9c
@[irreducible] noncomputable def C_mkshape (K : Params → Frag) (V : Program) (TL : List Str) (w : World) : Prop := ∀ {news : List (Addr × Obj)} {q1 q2 q3 q4 q5 q6 : Int} {s1 s2 s3 s4 s5 s6 : Tok}, Clls K V TL w 4 200 367 [.int q1 s1, .int q2 s2, .int q3 s3, .int q4 s4, .int q5 s5, .int q6 s6] GT news (RSHP w.params q1 q2 q3 q4 q5 q6)
theorem C_mkshape.use {K : Params → Frag} {V : Program} {TL : List Str} {w : World} (z9c : C_mkshape K V TL w) : ∀ {news : List (Addr × Obj)} {q1 q2 q3 q4 q5 q6 : Int} {s1 s2 s3 s4 s5 s6 : Tok}, Clls K V TL w 4 200 367 [.int q1 s1, .int q2 s2, .int q3 s3, .int q4 s4, .int q5 s5, .int q6 s6] GT news (RSHP w.params q1 q2 q3 q4 q5 q6) := by with_unfolding_all exact z9c
@[irreducible] noncomputable def C_based (K : Params → Frag) (V : Program) (TL : List Str) (w : World) : Prop := ∀ {news : List (Addr × Obj)} {v : Value} {b i sc wo sz : Int} {sg nm : Str} (z9hm : MemIn w.params news v b i sc wo sz sg nm) (z9hb16 : 0 ≤ b ∧ b ≤ 15) (z9hi16 : i ≠ 16) (z9hsc : sc = 1 ∨ sc = 2 ∨ sc = 4 ∨ sc = 8), Clls K V TL w 8 500 413 [v] GT news (RSh w.params (basedSh b i sc wo (nm != Str.ofString "")))
theorem C_based.use {K : Params → Frag} {V : Program} {TL : List Str} {w : World} (z9c : C_based K V TL w) : ∀ {news : List (Addr × Obj)} {v : Value} {b i sc wo sz : Int} {sg nm : Str} (z9hm : MemIn w.params news v b i sc wo sz sg nm) (z9hb16 : 0 ≤ b ∧ b ≤ 15) (z9hi16 : i ≠ 16) (z9hsc : sc = 1 ∨ sc = 2 ∨ sc = 4 ∨ sc = 8), Clls K V TL w 8 500 413 [v] GT news (RSh w.params (basedSh b i sc wo (nm != Str.ofString ""))) := by with_unfolding_all exact z9c
@[irreducible] noncomputable def C_cell (K : Params → Frag) (V : Program) (TL : List Str) (w : World) : Prop := ∀ {news : List (Addr × Obj)} {l : Addr} {vs : List Value} {ns : List Int} {p : Int} {t : Tok} (z9hi : IntsAre vs ns) (z9hn : ns.length ≤ 63) (z9hp : 0 ≤ p ∧ p ≤ 100), Clls K V TL w 2 100 455 [.ref l, .int p t] (fun h => h.IsList l vs.toArray) news RCE
theorem C_cell.use {K : Params → Frag} {V : Program} {TL : List Str} {w : World} (z9c : C_cell K V TL w) : ∀ {news : List (Addr × Obj)} {l : Addr} {vs : List Value} {ns : List Int} {p : Int} {t : Tok} (z9hi : IntsAre vs ns) (z9hn : ns.length ≤ 63) (z9hp : 0 ≤ p ∧ p ≤ 100), Clls K V TL w 2 100 455 [.ref l, .int p t] (fun h => h.IsList l vs.toArray) news RCE := by with_unfolding_all exact z9c
@[irreducible] noncomputable def C_place (K : Params → Frag) (V : Program) (TL : List Str) (w : World) : Prop := ∀ {news : List (Addr × Obj)} {l : Addr} {vs : List Value} {ns : List Int} (z9hi : IntsAre vs ns) (z9hn : ns.length ≤ 63), Clls K V TL w 5 200 504 [.ref l] (fun h => h.IsList l vs.toArray) news RPL
theorem C_place.use {K : Params → Frag} {V : Program} {TL : List Str} {w : World} (z9c : C_place K V TL w) : ∀ {news : List (Addr × Obj)} {l : Addr} {vs : List Value} {ns : List Int} (z9hi : IntsAre vs ns) (z9hn : ns.length ≤ 63), Clls K V TL w 5 200 504 [.ref l] (fun h => h.IsList l vs.toArray) news RPL := by with_unfolding_all exact z9c
@[irreducible] noncomputable def C_width (K : Params → Frag) (V : Program) (TL : List Str) (w : World) : Prop := ∀ {news : List (Addr × Obj)} {mod rm sib : Int} {t1 t2 t3 : Tok}, Clls K V TL w 2 20 476 [.int mod t1, .int rm t2, .int sib t3] GT news (RI (width mod rm sib))
theorem C_width.use {K : Params → Frag} {V : Program} {TL : List Str} {w : World} (z9c : C_width K V TL w) : ∀ {news : List (Addr × Obj)} {mod rm sib : Int} {t1 t2 t3 : Tok}, Clls K V TL w 2 20 476 [.int mod t1, .int rm t2, .int sib t3] GT news (RI (width mod rm sib)) := by with_unfolding_all exact z9c
@[irreducible] noncomputable def C_meaning (K : Params → Frag) (V : Program) (TL : List Str) (w : World) : Prop := ∀ {news : List (Addr × Obj)} {mod rm sib x b : Int} {t1 t2 t3 t4 t5 : Tok} (z9hs : 0 ≤ sib ∧ sib < 256 ∨ rm ≠ 4), Clls K V TL w 2 20 462 [.int mod t1, .int rm t2, .int sib t3, .int x t4, .int b t5] GT news (R3 (meaning mod rm sib x b))
theorem C_meaning.use {K : Params → Frag} {V : Program} {TL : List Str} {w : World} (z9c : C_meaning K V TL w) : ∀ {news : List (Addr × Obj)} {mod rm sib x b : Int} {t1 t2 t3 t4 t5 : Tok} (z9hs : 0 ≤ sib ∧ sib < 256 ∨ rm ≠ 4), Clls K V TL w 2 20 462 [.int mod t1, .int rm t2, .int sib t3, .int x t4, .int b t5] GT news (R3 (meaning mod rm sib x b)) := by with_unfolding_all exact z9c
@[irreducible] noncomputable def C_unpack (K : Params → Frag) (V : Program) (TL : List Str) (w : World) : Prop := ∀ {news : List (Addr × Obj)} {o : Int} {t1 : Tok}, Clls K V TL w 2 20 301 [.int o t1] GT news (R3t (Int.fdiv o 64) (Int.fmod (Int.fdiv o 8) 8) (Int.fmod o 8))
theorem C_unpack.use {K : Params → Frag} {V : Program} {TL : List Str} {w : World} (z9c : C_unpack K V TL w) : ∀ {news : List (Addr × Obj)} {o : Int} {t1 : Tok}, Clls K V TL w 2 20 301 [.int o t1] GT news (R3t (Int.fdiv o 64) (Int.fmod (Int.fdiv o 8) 8) (Int.fmod o 8)) := by with_unfolding_all exact z9c
@[irreducible] noncomputable def C_mkmem6 (K : Params → Frag) (V : Program) (TL : List Str) (w : World) : Prop := ∀ {news : List (Addr × Obj)} {v1 v2 : Value} {b i sc wo sz : Int} {sg : Str} {s3 s4 s5 s6 : Tok} (z9h1 : RegIn w.params news v1 b) (z9h2 : RegIn w.params news v2 i), Clls K V TL w 6 200 173 [v1, v2, .int sc s3, .int wo s4, .int sz s5, .str sg s6] GT news (RMEM w.params v1 v2 sc wo sz sg (Str.ofString ""))
theorem C_mkmem6.use {K : Params → Frag} {V : Program} {TL : List Str} {w : World} (z9c : C_mkmem6 K V TL w) : ∀ {news : List (Addr × Obj)} {v1 v2 : Value} {b i sc wo sz : Int} {sg : Str} {s3 s4 s5 s6 : Tok} (z9h1 : RegIn w.params news v1 b) (z9h2 : RegIn w.params news v2 i), Clls K V TL w 6 200 173 [v1, v2, .int sc s3, .int wo s4, .int sz s5, .str sg s6] GT news (RMEM w.params v1 v2 sc wo sz sg (Str.ofString "")) := by with_unfolding_all exact z9c
@[irreducible] noncomputable def C_memof (K : Params → Frag) (V : Program) (TL : List Str) (w : World) : Prop := ∀ {news : List (Addr × Obj)} {mod rm sib wo x b sz : Int} {sg : Str} {t1 t2 t3 t4 t5 t6 t7 t8 : Tok} (z9hmod : 0 ≤ mod ∧ mod ≤ 3) (z9hrm : 0 ≤ rm ∧ rm ≤ 7) (z9hx : x = 0 ∨ x = 1) (z9hb : b = 0 ∨ b = 1) (z9hs : rm = 4 → 0 ≤ sib ∧ sib < 256), Clls K V TL w 9 500 441 [.int mod t1, .int rm t2, .int sib t3, .int wo t4, .int x t5, .int b t6, .int sz t7, .str sg t8] GT news (RM w.params (meaning mod rm sib x b).1 (meaning mod rm sib x b).2.1 (meaning mod rm sib x b).2.2 wo sz sg (Str.ofString ""))
theorem C_memof.use {K : Params → Frag} {V : Program} {TL : List Str} {w : World} (z9c : C_memof K V TL w) : ∀ {news : List (Addr × Obj)} {mod rm sib wo x b sz : Int} {sg : Str} {t1 t2 t3 t4 t5 t6 t7 t8 : Tok} (z9hmod : 0 ≤ mod ∧ mod ≤ 3) (z9hrm : 0 ≤ rm ∧ rm ≤ 7) (z9hx : x = 0 ∨ x = 1) (z9hb : b = 0 ∨ b = 1) (z9hs : rm = 4 → 0 ≤ sib ∧ sib < 256), Clls K V TL w 9 500 441 [.int mod t1, .int rm t2, .int sib t3, .int wo t4, .int x t5, .int b t6, .int sz t7, .str sg t8] GT news (RM w.params (meaning mod rm sib x b).1 (meaning mod rm sib x b).2.1 (meaning mod rm sib x b).2.2 wo sz sg (Str.ofString "")) := by with_unfolding_all exact z9c
@[irreducible] noncomputable def C_means (K : Params → Frag) (V : Program) (TL : List Str) (w : World) : Prop := ∀ {news : List (Addr × Obj)} {v : Value} {sh : Sh} {wo sz : Int} {sg : Str} {s1 s2 s3 : Tok} (z9hm : ShIn w.params news v sh) (z9hmod : 0 ≤ sh.mod ∧ sh.mod ≤ 3) (z9hrm : 0 ≤ sh.rm ∧ sh.rm ≤ 7) (z9hx : sh.x = 0 ∨ sh.x = 1) (z9hb : sh.b = 0 ∨ sh.b = 1) (z9hs : sh.rm = 4 → 0 ≤ sh.sib ∧ sh.sib < 256), Clls K V TL w 11 700 448 [v, .int wo s1, .int sz s2, .str sg s3] GT news (RM w.params (meaning sh.mod sh.rm sh.sib sh.x sh.b).1 (meaning sh.mod sh.rm sh.sib sh.x sh.b).2.1 (meaning sh.mod sh.rm sh.sib sh.x sh.b).2.2 wo sz sg (Str.ofString ""))
theorem C_means.use {K : Params → Frag} {V : Program} {TL : List Str} {w : World} (z9c : C_means K V TL w) : ∀ {news : List (Addr × Obj)} {v : Value} {sh : Sh} {wo sz : Int} {sg : Str} {s1 s2 s3 : Tok} (z9hm : ShIn w.params news v sh) (z9hmod : 0 ≤ sh.mod ∧ sh.mod ≤ 3) (z9hrm : 0 ≤ sh.rm ∧ sh.rm ≤ 7) (z9hx : sh.x = 0 ∨ sh.x = 1) (z9hb : sh.b = 0 ∨ sh.b = 1) (z9hs : sh.rm = 4 → 0 ≤ sh.sib ∧ sh.sib < 256), Clls K V TL w 11 700 448 [v, .int wo s1, .int sz s2, .str sg s3] GT news (RM w.params (meaning sh.mod sh.rm sh.sib sh.x sh.b).1 (meaning sh.mod sh.rm sh.sib sh.x sh.b).2.1 (meaning sh.mod sh.rm sh.sib sh.x sh.b).2.2 wo sz sg (Str.ofString "")) := by with_unfolding_all exact z9c
@[irreducible] noncomputable def C_needless (K : Params → Frag) (V : Program) (TL : List Str) (w : World) : Prop := ∀ {news : List (Addr × Obj)} {mod rm sib b : Int} {t1 t2 t3 t4 : Tok} (z9hs : sib < 256), Clls K V TL w 4 200 525 [.int mod t1, .int rm t2, .int sib t3, .int b t4] GT news (RB (needless mod rm sib b))
theorem C_needless.use {K : Params → Frag} {V : Program} {TL : List Str} {w : World} (z9c : C_needless K V TL w) : ∀ {news : List (Addr × Obj)} {mod rm sib b : Int} {t1 t2 t3 t4 : Tok} (z9hs : sib < 256), Clls K V TL w 4 200 525 [.int mod t1, .int rm t2, .int sib t3, .int b t4] GT news (RB (needless mod rm sib b)) := by with_unfolding_all exact z9c
@[irreducible] noncomputable def C_hasneed (K : Params → Frag) (V : Program) (TL : List Str) (w : World) : Prop := ∀ {news : List (Addr × Obj)} {v : Value} {sh : Sh} (z9hm : ShIn w.params news v sh), Clls K V TL w 5 200 420 [v] GT news (RB (needSh sh))
theorem C_hasneed.use {K : Params → Frag} {V : Program} {TL : List Str} {w : World} (z9c : C_hasneed K V TL w) : ∀ {news : List (Addr × Obj)} {v : Value} {sh : Sh} (z9hm : ShIn w.params news v sh), Clls K V TL w 5 200 420 [v] GT news (RB (needSh sh)) := by with_unfolding_all exact z9c
@[irreducible] noncomputable def C_told (K : Params → Frag) (V : Program) (TL : List Str) (w : World) : Prop := ∀ {news : List (Addr × Obj)} {v : Value} {b i sc wo sz : Int} {sg nm : Str} (z9hm : MemIn w.params news v b i sc wo sz sg nm), Clls K V TL w 3 200 144 [v] GT news (RT8 b i sc wo sz sg nm)
theorem C_told.use {K : Params → Frag} {V : Program} {TL : List Str} {w : World} (z9c : C_told K V TL w) : ∀ {news : List (Addr × Obj)} {v : Value} {b i sc wo sz : Int} {sg nm : Str} (z9hm : MemIn w.params news v b i sc wo sz sg nm), Clls K V TL w 3 200 144 [v] GT news (RT8 b i sc wo sz sg nm) := by with_unfolding_all exact z9c
@[irreducible] noncomputable def C_odd (K : Params → Frag) (V : Program) (TL : List Str) (w : World) : Prop := ∀ {news : List (Addr × Obj)} {l : Addr} {vs : List Value} {ns : List Int} (z9hi : IntsAre vs ns) (z9hn : ns.length ≤ 63), Clls K V TL w 14 900 537 [.ref l] (fun h => h.IsList l vs.toArray) news (RB true)
theorem C_odd.use {K : Params → Frag} {V : Program} {TL : List Str} {w : World} (z9c : C_odd K V TL w) : ∀ {news : List (Addr × Obj)} {l : Addr} {vs : List Value} {ns : List Int} (z9hi : IntsAre vs ns) (z9hn : ns.length ≤ 63), Clls K V TL w 14 900 537 [.ref l] (fun h => h.IsList l vs.toArray) news (RB true) := by with_unfolding_all exact z9c
@[irreducible] noncomputable def C_tidy (K : Params → Frag) (V : Program) (TL : List Str) (w : World) : Prop := ∀ {news : List (Addr × Obj)} {mod rm sib x b : Int} {t1 t2 t3 t4 t5 : Tok}, Clls K V TL w 2 20 469 [.int mod t1, .int rm t2, .int sib t3, .int x t4, .int b t5] GT news (RB (tidy mod rm sib x b))
theorem C_tidy.use {K : Params → Frag} {V : Program} {TL : List Str} {w : World} (z9c : C_tidy K V TL w) : ∀ {news : List (Addr × Obj)} {mod rm sib x b : Int} {t1 t2 t3 t4 t5 : Tok}, Clls K V TL w 2 20 469 [.int mod t1, .int rm t2, .int sib t3, .int x t4, .int b t5] GT news (RB (tidy mod rm sib x b)) := by with_unfolding_all exact z9c
@[irreducible] noncomputable def C_bears (K : Params → Frag) (V : Program) (TL : List Str) (w : World) : Prop := ∀ {news : List (Addr × Obj)} {wd worth : Int} {named : Bool} {t1 t2 : Tok}, Clls K V TL w 2 20 483 [.int wd t1, .int worth t2, .bool named] GT news (RB (bears wd worth named))
theorem C_bears.use {K : Params → Frag} {V : Program} {TL : List Str} {w : World} (z9c : C_bears K V TL w) : ∀ {news : List (Addr × Obj)} {wd worth : Int} {named : Bool} {t1 t2 : Tok}, Clls K V TL w 2 20 483 [.int wd t1, .int worth t2, .bool named] GT news (RB (bears wd worth named)) := by with_unfolding_all exact z9c
@[irreducible] noncomputable def C_all (K : Params → Frag) (V : Program) (TL : List Str) (w : World) : Prop := ∀ {news : List (Addr × Obj)} {D : Addr} {b i sc wo : Int} {named : Bool} {t1 t2 t3 t4 : Tok} {n : Nat} (z9hD : (D, tup [.int b t1, .int i t2, .int sc t3] n) ∈ news) (z9hb : -1 ≤ b ∧ b ≤ 16), Clls K V TL w 9 500 490 [.ref D, .int wo t4, .bool named] GT news (RF (lawAll b i sc wo named))
theorem C_all.use {K : Params → Frag} {V : Program} {TL : List Str} {w : World} (z9c : C_all K V TL w) : ∀ {news : List (Addr × Obj)} {D : Addr} {b i sc wo : Int} {named : Bool} {t1 t2 t3 t4 : Tok} {n : Nat} (z9hD : (D, tup [.int b t1, .int i t2, .int sc t3] n) ∈ news) (z9hb : -1 ≤ b ∧ b ≤ 16), Clls K V TL w 9 500 490 [.ref D, .int wo t4, .bool named] GT news (RF (lawAll b i sc wo named)) := by with_unfolding_all exact z9c
@[irreducible] noncomputable def C_len6 (K : Params → Frag) (V : Program) (TL : List Str) (w : World) : Prop := ∀ {news : List (Addr × Obj)} {v : Value} {sh : Sh} (z9hf : FIn news v sh), Clls K V TL w 3 50 518 [v] GT news (RI (shLen sh))
theorem C_len6.use {K : Params → Frag} {V : Program} {TL : List Str} {w : World} (z9c : C_len6 K V TL w) : ∀ {news : List (Addr × Obj)} {v : Value} {sh : Sh} (z9hf : FIn news v sh), Clls K V TL w 3 50 518 [v] GT news (RI (shLen sh)) := by with_unfolding_all exact z9c
@[irreducible] noncomputable def C_isaddr (K : Params → Frag) (V : Program) (TL : List Str) (w : World) : Prop := ∀ {news : List (Addr × Obj)} {v : Value} {b : Int} (z9h : RegIn w.params news v b) (z9hb : 0 ≤ b ∧ b ≤ 15), Clls K V TL w 3 100 182 [v] GT news (RB true)
theorem C_isaddr.use {K : Params → Frag} {V : Program} {TL : List Str} {w : World} (z9c : C_isaddr K V TL w) : ∀ {news : List (Addr × Obj)} {v : Value} {b : Int} (z9h : RegIn w.params news v b) (z9hb : 0 ≤ b ∧ b ≤ 15), Clls K V TL w 3 100 182 [v] GT news (RB true) := by with_unfolding_all exact z9c
@[irreducible] noncomputable def C_ckbase (K : Params → Frag) (V : Program) (TL : List Str) (w : World) : Prop := ∀ {news : List (Addr × Obj)} {v : Value} {b i sc wo sz : Int} {sg nm : Str} (z9hm : MemIn w.params news v b i sc wo sz sg nm) (z9hbi : b = 16 → i = -1), Clls K V TL w 5 200 189 [v] GT news RN
theorem C_ckbase.use {K : Params → Frag} {V : Program} {TL : List Str} {w : World} (z9c : C_ckbase K V TL w) : ∀ {news : List (Addr × Obj)} {v : Value} {b i sc wo sz : Int} {sg nm : Str} (z9hm : MemIn w.params news v b i sc wo sz sg nm) (z9hbi : b = 16 → i = -1), Clls K V TL w 5 200 189 [v] GT news RN := by with_unfolding_all exact z9c
@[irreducible] noncomputable def C_ckidx (K : Params → Frag) (V : Program) (TL : List Str) (w : World) : Prop := ∀ {news : List (Addr × Obj)} {v : Value} {b i sc wo sz : Int} {sg nm : Str} (z9hm : MemIn w.params news v b i sc wo sz sg nm) (z9hi16 : i ≠ 16) (z9hi4 : i ≠ 4) (z9hsc : sc = 1 ∨ i ≠ -1 ∧ (sc = 2 ∨ sc = 4 ∨ sc = 8)), Clls K V TL w 5 200 196 [v] GT news RN
theorem C_ckidx.use {K : Params → Frag} {V : Program} {TL : List Str} {w : World} (z9c : C_ckidx K V TL w) : ∀ {news : List (Addr × Obj)} {v : Value} {b i sc wo sz : Int} {sg nm : Str} (z9hm : MemIn w.params news v b i sc wo sz sg nm) (z9hi16 : i ≠ 16) (z9hi4 : i ≠ 4) (z9hsc : sc = 1 ∨ i ≠ -1 ∧ (sc = 2 ∨ sc = 4 ∨ sc = 8)), Clls K V TL w 5 200 196 [v] GT news RN := by with_unfolding_all exact z9c
@[irreducible] noncomputable def C_fits32 (K : Params → Frag) (V : Program) (TL : List Str) (w : World) : Prop := ∀ {news : List (Addr × Obj)} {n : Int} {t1 t2 : Tok}, Clls K V TL w 2 100 80 [.int n t1, .int 32 t2] GT news (RB (decide (-2147483648 ≤ n) && decide (n < 2147483648)))
theorem C_fits32.use {K : Params → Frag} {V : Program} {TL : List Str} {w : World} (z9c : C_fits32 K V TL w) : ∀ {news : List (Addr × Obj)} {n : Int} {t1 t2 : Tok}, Clls K V TL w 2 100 80 [.int n t1, .int 32 t2] GT news (RB (decide (-2147483648 ≤ n) && decide (n < 2147483648))) := by with_unfolding_all exact z9c
@[irreducible] noncomputable def C_ckmem (K : Params → Frag) (V : Program) (TL : List Str) (w : World) : Prop := ∀ {news : List (Addr × Obj)} {v : Value} {b i sc wo : Int} {nm : Str} (z9hm : MemIn w.params news v b i sc wo 32 (Str.ofString "") nm) (z9hbi : b = 16 → i = -1) (z9hi16 : i ≠ 16) (z9hi4 : i ≠ 4) (z9hsc : sc = 1 ∨ i ≠ -1 ∧ (sc = 2 ∨ sc = 4 ∨ sc = 8)) (z9hwo : -2147483648 ≤ wo ∧ wo < 2147483648), Clls K V TL w 7 300 203 [v] GT news (fun u add => add = [] ∧ u = v)
theorem C_ckmem.use {K : Params → Frag} {V : Program} {TL : List Str} {w : World} (z9c : C_ckmem K V TL w) : ∀ {news : List (Addr × Obj)} {v : Value} {b i sc wo : Int} {nm : Str} (z9hm : MemIn w.params news v b i sc wo 32 (Str.ofString "") nm) (z9hbi : b = 16 → i = -1) (z9hi16 : i ≠ 16) (z9hi4 : i ≠ 4) (z9hsc : sc = 1 ∨ i ≠ -1 ∧ (sc = 2 ∨ sc = 4 ∨ sc = 8)) (z9hwo : -2147483648 ≤ wo ∧ wo < 2147483648), Clls K V TL w 7 300 203 [v] GT news (fun u add => add = [] ∧ u = v) := by with_unfolding_all exact z9c
@[irreducible] noncomputable def C_memsh (K : Params → Frag) (V : Program) (TL : List Str) (w : World) : Prop := ∀ {news : List (Addr × Obj)} {v : Value} {b i sc wo : Int} {nm : Str} (z9hm : MemIn w.params news v b i sc wo 32 (Str.ofString "") nm) (z9hp : PlOk b i sc) (z9hwo : -2147483648 ≤ wo ∧ wo < 2147483648), Cllt K V TL w 12 800 lamQ lamP 427 [v] (fun h => CodeHd h 426 422) news (RMS w.params b i sc wo (nm != Str.ofString ""))
theorem C_memsh.use {K : Params → Frag} {V : Program} {TL : List Str} {w : World} (z9c : C_memsh K V TL w) : ∀ {news : List (Addr × Obj)} {v : Value} {b i sc wo : Int} {nm : Str} (z9hm : MemIn w.params news v b i sc wo 32 (Str.ofString "") nm) (z9hp : PlOk b i sc) (z9hwo : -2147483648 ≤ wo ∧ wo < 2147483648), Cllt K V TL w 12 800 lamQ lamP 427 [v] (fun h => CodeHd h 426 422) news (RMS w.params b i sc wo (nm != Str.ofString "")) := by with_unfolding_all exact z9c
@[irreducible] noncomputable def C_least (K : Params → Frag) (V : Program) (TL : List Str) (w : World) : Prop := ∀ {news : List (Addr × Obj)} {v : Value} {b i sc wo : Int} {nm : Str} (z9hm : MemIn w.params news v b i sc wo 32 (Str.ofString "") nm) (z9hp : PlOk b i sc) (z9hwo : -2147483648 ≤ wo ∧ wo < 2147483648), Cllt K V TL w 14 900 lamQ lamP 434 [v] (fun h => CodeHd h 426 422) news (RLS w.params b i sc wo (nm != Str.ofString ""))
theorem C_least.use {K : Params → Frag} {V : Program} {TL : List Str} {w : World} (z9c : C_least K V TL w) : ∀ {news : List (Addr × Obj)} {v : Value} {b i sc wo : Int} {nm : Str} (z9hm : MemIn w.params news v b i sc wo 32 (Str.ofString "") nm) (z9hp : PlOk b i sc) (z9hwo : -2147483648 ≤ wo ∧ wo < 2147483648), Cllt K V TL w 14 900 lamQ lamP 434 [v] (fun h => CodeHd h 426 422) news (RLS w.params b i sc wo (nm != Str.ofString "")) := by with_unfolding_all exact z9c
@[irreducible] noncomputable def C_right (K : Params → Frag) (V : Program) (TL : List Str) (w : World) : Prop := ∀ {news : List (Addr × Obj)} {D : Addr} {b i sc wo : Int} {nm : Str} {t1 t2 t3 t4 t5 : Tok} {n : Nat} (z9hD : (D, tup [.int b t1, .int i t2, .int sc t3] n) ∈ news) (z9hp : PlOk b i sc) (z9hwo : -2147483648 ≤ wo ∧ wo < 2147483648), Cllx K V TL w 16 1200 lamQ lamP 530 [.ref D, .int wo t4, .str nm t5] (fun h => CodeHd h 426 422) news
theorem C_right.use {K : Params → Frag} {V : Program} {TL : List Str} {w : World} (z9c : C_right K V TL w) : ∀ {news : List (Addr × Obj)} {D : Addr} {b i sc wo : Int} {nm : Str} {t1 t2 t3 t4 t5 : Tok} {n : Nat} (z9hD : (D, tup [.int b t1, .int i t2, .int sc t3] n) ∈ news) (z9hp : PlOk b i sc) (z9hwo : -2147483648 ≤ wo ∧ wo < 2147483648), Cllx K V TL w 16 1200 lamQ lamP 530 [.ref D, .int wo t4, .str nm t5] (fun h => CodeHd h 426 422) news := by with_unfolding_all exact z9c
local macro_rules | `(tactic| walk_at "exec Raise some none") => `(tactic| (exfalso; omega))
local macro_rules | `(tactic| ktr_room) => `(tactic| walk_at "own room")
local macro_rules | `(tactic| ktr_units) => `(tactic| walk_at "own room")
local macro_rules | `(tactic| walk_at "own room") => `(tactic| first | (apply rm3; assumption; exact rfl) | (apply rm2; assumption; exact rfl) | (apply rm1; assumption) | (apply rm4; assumption; exact rfl) | fail)
local macro_rules | `(tactic| ke_room) => `(tactic| first | walk_at "own room" | omega | ktr_units)
local macro_rules | `(tactic| k_room) => `(tactic| ktr_room)
local macro_rules | `(tactic| k_units) => `(tactic| ktr_units)
local macro_rules | `(tactic| walk_at "UnrEnd") => `(tactic| (apply unr_9; assumption; assumption; assumption))
local macro_rules | `(tactic| k_mem) => `(tactic| ((repeat refine List.mem_cons_of_mem _ ?_); ktr_member))
local macro_rules | `(tactic| k_handed) => `(tactic| exact RegIn.handed (by assumption))
local macro_rules | `(tactic| walk_at "pyIter ref") => `(tactic| (apply stop_l; assumption))
local macro_rules | `(tactic| k_all) => `(tactic| assumption)
local macro_rules | `(tactic| size_fits) => `(tactic| ((have ol9 : OwnLoops := by assumption); (try simp only [Array.size_push]); rw [PySem.sizeLine_eq]; omega))
local macro_rules | `(tactic| walk_at "ite") => `(tactic| first | with_reducible refine ite_ff ?_ | with_reducible refine ite_tt ?_)
local macro_rules | `(tactic| walk_at "subscriptTail") => `(tactic| (k_dflt (refine' item_l9 (by k_asm) (by k_mem) (by repeat constructor) (by omega) (by (simp only [List.length_cons, List.length_nil]; omega)) (by omega) ?_); intro _ _))
local macro_rules | `(tactic| walk_at "binaryOp LShift int int") => `(tactic| k_dflt (refine' lsh9 (by assumption) (by assumption) (by assumption) ?_))
local macro_rules | `(tactic| walk_at "eval Call") => `(tactic| (k_here; k_dflt (refine' Call_own (by exact rfl) ?_)))
local macro_rules | `(tactic| walk_at "eval Call") => `(tactic| ((rename Frag.In _ _ => X7); k_dflt (refine' call_sv (by k_asm) (by k_asm) X7 (by k_asm) (by k_asm) (by exact rfl) (by k_is) (by decide +kernel) (by k_is) (by decide +kernel) (by exact rfl) (by walk_at "own C") (by first | exact trivial | assumption) (by walk_at "own roomy") (by walk_at "own roomy") ?_; walk_at "own ret")))
local macro_rules | `(tactic| walk_at "execs cons") => `(tactic| with_reducible refine execs_cons9 ?_)
local macro_rules | `(tactic| walk_at "SeqK") => `(tactic| with_reducible first | refine seq_next ?_ | refine seq_ret ?_ | refine seq_cont ?_ | refine seq_brk ?_)
local macro_rules | `(tactic| walk_at "execs nil") => `(tactic| with_reducible refine wpAny_execs_nil ?_)
local macro_rules | `(tactic| walk_at "exec If") => `(tactic| with_reducible refine if9 ?_)
local macro_rules | `(tactic| walk_at "IfK") => `(tactic| with_reducible refine if_k ?_)
local macro_rules | `(tactic| walk_at "callWith ref") => `(tactic| ((rename Frag.In _ _ => X7); k_dflt (refine' callWith_K0 ?k1 ?k2 ?_; (case k1 => exact Frag.In.keeps X7 (Fr.keep (by with_reducible assumption))); (case k2 => k_is); k_whole)))
local macro_rules | `(tactic| walk_at "callWith") => `(tactic| ((dsimp only); walk_at "callWith ref"))
local macro_rules | `(tactic| walk_at "callWith ref") => `(tactic| ((rename Frag.In _ _ => X7); k_dflt (refine' callWith_K ?k1 ?k2 ?_; (case k1 => exact X7); (case k2 => k_is); k_whole)))
local macro_rules | `(tactic| walk_at "subscriptTail Name Name ref int") => `(tactic| walk_at "subscriptTail")
local macro_rules | `(tactic| walk_at "callWith type:str") => `(tactic| with_unfolding_all refine PyProof.Rows.callWith_type1 ?_)
local macro_rules | `(tactic| walk_at "callWith type:set") => `(tactic| with_unfolding_all refine PyProof.Rows.callWith_type1 ?_)
local macro_rules | `(tactic| walk_at "callWith builtin:len") => `(tactic| with_unfolding_all refine PyProof.Rows.callWith_builtin1 ?_)
local macro_rules | `(tactic| walk_at "callWith builtin:sorted") => `(tactic| with_unfolding_all refine PyProof.Rows.callWith_builtin1 ?_)
local macro_rules | `(tactic| walk_at "callWith builtin:min") => `(tactic| with_unfolding_all refine PyProof.Rows.callWith_builtin1 ?_)
local macro_rules | `(tactic| walk_at "callWith builtin:all") => `(tactic| with_unfolding_all refine PyProof.Rows.callWith_builtin1 ?_)
local macro_rules | `(tactic| walk_at "callWith builtin:str.split") => `(tactic| with_unfolding_all refine PyProof.Rows.callWith_method1 ?_)
local macro_rules | `(tactic| passes_own) => `(tactic| assumption)
local macro_rules | `(tactic| walk_at "own 6") => `(tactic| (apply stop_n 6; assumption))
local macro_rules | `(tactic| walk_at "own sub") => `(tactic| first | (intro p hp; walk_at "own sub2") | kcj_all)
local macro_rules | `(tactic| walk_at "own mm") => `(tactic| (repeat first | exact List.Mem.head _ | refine List.Mem.tail _ ?_))
local macro_rules | `(tactic| walk_at "own sub2") => `(tactic| ((repeat refine List.Mem.tail _ ?_); first | assumption | (refine List.mem_append_left _ ?_; walk_at "own sub2") | (refine List.mem_append_right _ ?_; walk_at "own sub2")))
local macro_rules | `(tactic| walk_at "own mma") => `(tactic| first | (walk_at "own mm"; done) | ((repeat refine List.Mem.tail _ ?_); first | assumption | (refine List.mem_append_left _ ?_; walk_at "own mma") | (refine List.mem_append_right _ ?_; walk_at "own mma")))
local macro_rules | `(tactic| walk_at "own reg") => `(tactic| first | (apply RegIn.mono; assumption; walk_at "own sub") | apply RegIn.none)
local macro_rules | `(tactic| walk_at "own reg2") => `(tactic| first | apply RegIn.none | (apply RegIn.mono; assumption; walk_at "own sub"))
local macro_rules | `(tactic| walk_at "own mem") => `(tactic| (apply MemIn.mono; assumption; walk_at "own sub"))
local macro_rules | `(tactic| walk_at "own bd") => `(tactic| ((try dsimp only); first | (with_reducible first | exact bd3 | exact bd8 | exact bd4 | exact bd2 | exact bdd | (intro _; exact bd256)) | assumption | omega | (intro _; first | assumption | omega)))
local macro_rules | `(tactic| walk_at "own shin") => `(tactic| first | exact ShIn.mono (by assumption) (by walk_at "own sub") | (refine' ShIn.mk6 ?sa9 ?sb9; (case sa9 => walk_at "own mm"); (case sb9 => walk_at "own mm")))
local macro_rules | `(tactic| walk_at "own lst") => `(tactic| exact News.isList (by k_asm) (by k_mem))
local macro_rules | `(tactic| walk_at "own side") => `(tactic| first | assumption | walk_at "own mem" | walk_at "own reg" | walk_at "own shin" | (apply FIn.mono; assumption; walk_at "own sub") | (apply rng8 <;> assumption) | (apply rng7 <;> assumption) | exact Or.inl bd256 | exact bd256.2 | (apply mean_bd1 <;> walk_at "own bd") | (apply mean_bd2 <;> walk_at "own bd") | walk_at "own bd" | (apply Or.inr; omega) | (apply Or.inl; constructor <;> omega) | walk_at "own mma")
local macro_rules | `(tactic| walk_at "own ret") => `(tactic| ((with_reducible first | (apply rel_3t; assumption) | (apply rel_l; assumption) | (apply rel_sh; assumption) | apply ret_u | apply ret_i | apply ret_s | apply ret_ce | apply ret_3t | apply ret_g | apply ret_m | apply ret_t8 | apply ret_pl | apply ret_l | apply ret_sh | apply ret_me | apply ret_f | apply ret_ss); intros; (try walk_at "own lt"); (try dsimp only); (try k_sweep); (try k_fold)))
local macro_rules | `(tactic| walk_at "own lt") => `(tactic| (rename AllLt _ _ => l9; dsimp only [AllLt] at l9; (try walk_at "own lt")))
local macro_rules | `(tactic| walk_at "own roomy") => `(tactic| first | walk_at "own room" | omega | ktr_room | ktr_units)
local macro_rules | `(tactic| walk_at "storeName") => `(tactic| (k_here; k_dflt (refine' storeX_9 (by k_asm) (by k_asm) ?_ (by rfl) (by rfl); intro h' tk' m' F' N'; (try k_sweep))))
local macro_rules | `(tactic| walk_at "eval Compare") => `(tactic| ((rename Fr _ _ _ _ => F7); k_dflt (refine' cmp_sv F7 rfl (by decide +kernel) rfl rfl rfl ?_)))
local macro_rules | `(tactic| walk_at "isTrue Compare") => `(tactic| ((rename Fr _ _ _ _ => F7); k_dflt (refine' isTrue_sv F7 rfl (by decide +kernel) rfl rfl rfl ?_)))
local macro_rules | `(tactic| walk_at "spliced") => `(tactic| ((rename Fr _ _ _ _ => F7); k_dflt (refine' args_9 F7 rfl (by decide +kernel) rfl ?_); (first | with_reducible show _ ∧ _ | dsimp only [List.cons_append, List.nil_append] | skip)))
local macro_rules | `(tactic| walk_at "eval Attribute Name") => `(tactic| ((rename Fr _ _ _ _ => F7); (rename Frag.In _ _ => X7); k_dflt (refine' attr_sv F7 rfl (by decide +kernel) rfl X7 (by k_inst) (by k_is) (by k_is) (by k_is) (by k_is) (by k_get) (by k_handed) ?_)))
local macro_rules | `(tactic| walk_at "call ref") => `(tactic| ((rename Frag.In _ _ => X7); k_dflt (refine' clls_9 (by k_asm) (by k_asm) X7 (by k_asm) (by k_asm) (by first | exact rfl | assumption) (by walk_at "own C") (by first | exact trivial | assumption) (by walk_at "own roomy") (by walk_at "own roomy") ?_; walk_at "own ret")))
local macro_rules | `(tactic| walk_at "own C") => `(tactic| (first | apply C_gpr.use | apply C_word.use | apply C_mkmem7.use | apply C_rip.use | apply C_lmem.use | apply C_extbit.use | apply C_needs.use | apply C_pack.use | apply C_shift.use | apply C_sibfor.use | apply C_fits8.use | apply C_widthsfor.use | apply C_modof.use | apply C_mkshape.use | apply C_based.use | apply C_cell.use | apply C_place.use | apply C_width.use | apply C_meaning.use | apply C_unpack.use | apply C_mkmem6.use | apply C_memof.use | apply C_means.use | apply C_needless.use | apply C_hasneed.use | apply C_told.use | apply C_odd.use | apply C_tidy.use | apply C_bears.use | apply C_all.use | apply C_len6.use | apply C_isaddr.use | apply C_ckbase.use | apply C_ckidx.use | apply C_fits32.use | apply C_ckmem.use | fail) <;> walk_at "own side")
local macro_rules | `(tactic| walk_at "exec Raise some none") => `(tactic| (exfalso; simp_all))
local macro_rules | `(tactic| walk_at "own d8") => `(tactic| (apply dat8_in; walk_at "own mm"; exact rfl; exact rfl; exact rfl))
local macro_rules | `(tactic| walk_at "compareOp NotEq ref ref") => `(tactic| (k_here; k_dflt (refine' same_ne (by k_asm) (by walk_at "own d8") (by walk_at "own d8") (dat8_ok (by decide +kernel) (by decide +kernel)) (by ke_room) ?_)))
local macro_rules | `(tactic| walk_at "exec Raise some none") => `(tactic| (exfalso; apply sc_no; assumption; assumption))
local macro_rules | `(tactic| walk_at "call builtin:sorted") => `(tactic| ((have o9 : Own 2 := by assumption); refine stop_here ?_))
local macro_rules | `(tactic| walk_at "eval Lambda") => `(tactic| (k_here; (have o9 : Own 2 := by assumption); kn_here; k_dflt (refine' kla_eval ?d0 ?_; (case d0 => exact rfl)); refine stop_here ?_))
local macro_rules | `(tactic| walk_at "call ref") => `(tactic| with_reducible refine stop_ms (by assumption) ?_)
local macro_rules | `(tactic| walk_at "call builtin:sorted") => `(tactic| walk_at "own 6")
local macro_rules | `(tactic| walk_at "call builtin:min") => `(tactic| walk_at "own 6")
local macro_rules | `(tactic| walk_at "call builtin:all") => `(tactic| walk_at "own 6")
local macro_rules | `(tactic| walk_at "call type:set") => `(tactic| walk_at "own 6")
local macro_rules | `(tactic| walk_at "compareOp NotEq ref ref") => `(tactic| walk_at "own 6")
local macro_rules | `(tactic| walk_at "compareOp Eq ref ref") => `(tactic| walk_at "own 6")
local macro_rules | `(tactic| walk_at "CompSrc") => `(tactic| walk_at "own 6")
local macro_rules | `(tactic| walk_at "CompEnd") => `(tactic| walk_at "own 6")
local macro_rules | `(tactic| walk_at "call ref") => `(tactic| (with_reducible first | refine stop_427 (by assumption) ?_ | refine stop_434 (by assumption) ?_))
local macro_rules | `(tactic| walk_at "own six") => `(tactic| (have o9 : Own 6 := by assumption))
local macro_rules | `(tactic| walk_at "call builtin:len") => `(tactic| (walk_at "own six"; k_dflt (refine' len_set9 (by k_asm) (by walk_at "own mma") (by assumption) (by omega) ?_); intro _ _))
local macro_rules | `(tactic| walk_at "call builtin:len") => `(tactic| (walk_at "own six"; k_dflt (refine' len_list9 (by k_asm) (by walk_at "own mma") (by assumption) (by omega) ?_); intro _ _))
local macro_rules | `(tactic| walk_at "subscriptTail") => `(tactic| (walk_at "own six"; (with_reducible show wpAny _ _ (subscriptTail _ _ (Value.ref _) (Value.int 0 _)) _ _ _); k_dflt (refine' sub0 (by k_asm) (by walk_at "own mma") ?_ (by with_unfolding_all rfl))))
local macro_rules | `(tactic| walk_at "subscriptTail") => `(tactic| (walk_at "own six"; (with_reducible show wpAny _ _ (subscriptTail _ _ (Value.ref _) (Value.int _ _)) _ _ _); k_dflt (refine' subt (by k_asm) (by walk_at "own mma") (by decide) (by decide) (by rfl) (by rfl) ?_ (by with_unfolding_all rfl))))
local macro_rules | `(tactic| walk_at "callWith ref") => `(tactic| (walk_at "own six"; (rename Frag.In _ _ => X7); k_dflt (refine' callWith_K0 (by exact Frag.In.keeps X7 (Fr.keep (by with_reducible assumption))) (by k_is) ?_)))
local macro_rules | `(tactic| walk_at "eval Name") => `(tactic| (walk_at "own six"; (with_reducible show wpAny _ _ (eval (PySem.Expr.Name _ _) (compEnvC _ _ _ _)) _ _ _); k_dflt (refine' PySem.W.lcf_cell (by k_asm) (by rfl) (by walk_at "own mma") (by k_asm) ?_ (by rfl) (by rfl))))
local macro_rules | `(tactic| walk_at "call ref") => `(tactic| with_reducible refine stop_530 (by assumption) ?_)
set_option Elab.async true in
theorem x0 : PySem.Challenge.rw_pb0421_01.Holds := by
  w_on
  o_law
  k_head
  (case hw => w_witness2)
  k_go0
  (rename (Frag.In _ _) => X0)
  (rename (Top _ _ _ _ _ _) => T0)
  have q_gpr := pin X0 T0 (C := fun K V TL w => C_gpr K V TL w) (by
    as_aux_lemma =>
      (repeat (rename _ => zz; clear zz))
      (rename World => w)
      with_unfolding_all intro news n t1 t2 hn
      try (unfold Clls; k_fill; fail)
      k_dflt (refine' clls_enter ?k1j ?k2j ?k3j ?k4j ?k5j ?k6j ?k7j ?k8j ?_; (case k1j => k_is); (case k2j => k_is); (case k3j => exact fun _ => BindsTo.of_eq rfl); (case k4j => exact locs rfl); (case k5j => decide); (case k6j => exact rfl); (case k7j => exact rfl); (case k8j => exact rfl))
      intro mean mg mb dp un gd outer A₀ base h₀ L gs dw os h₁ tk E m B F X N T hG hd hu hE
      (try dsimp only)
      (try k_fold)
      repeat' (first | (k_unfold; (try dsimp only)) | walk1 | (dsimp only; walk1) | (leave1; (try dsimp only)) | fail "no step")
      all_goals exact fin_gpr (by assumption) (by assumption) (by k_mem) (by k_mem) (by (first | (intro p hp; (repeat refine List.Mem.tail _ ?_); exact hp) | (intro p hp; ((repeat refine List.Mem.tail _ ?_); first | exact hp | (refine List.mem_append.mpr (.inl ?_); ((repeat refine List.Mem.tail _ ?_); first | exact hp | (refine List.mem_append.mpr (.inl ?_); ((repeat refine List.Mem.tail _ ?_); first | exact hp)) | (refine List.mem_append.mpr (.inr ?_); ((repeat refine List.Mem.tail _ ?_); first | exact hp)))) | (refine List.mem_append.mpr (.inr ?_); ((repeat refine List.Mem.tail _ ?_); first | exact hp | (refine List.mem_append.mpr (.inl ?_); ((repeat refine List.Mem.tail _ ?_); first | exact hp)) | (refine List.mem_append.mpr (.inr ?_); ((repeat refine List.Mem.tail _ ?_); first | exact hp)))))) | kcj_all)) (by (first | assumption | exact lt_from (by assumption) (by intro q hq; ((repeat refine List.Mem.tail _ ?_); first | exact hq | (refine List.mem_append.mpr (.inl ?_); ((repeat refine List.Mem.tail _ ?_); first | exact hq | (refine List.mem_append.mpr (.inl ?_); ((repeat refine List.Mem.tail _ ?_); first | exact hq)) | (refine List.mem_append.mpr (.inr ?_); ((repeat refine List.Mem.tail _ ?_); first | exact hq)))) | (refine List.mem_append.mpr (.inr ?_); ((repeat refine List.Mem.tail _ ?_); first | exact hq | (refine List.mem_append.mpr (.inl ?_); ((repeat refine List.Mem.tail _ ?_); first | exact hq)) | (refine List.mem_append.mpr (.inr ?_); ((repeat refine List.Mem.tail _ ?_); first | exact hq)))))) | exact allLt_of (by assumption) | exact (by assumption : _ ∧ AllLt _ _).2 | exact (by assumption : _ ∧ _ ∧ AllLt _ _).2.2 | exact (by assumption : _ ∧ _ ∧ _ ∧ AllLt _ _).2.2.2 | exact (by assumption : _ ∧ _ ∧ _ ∧ _ ∧ AllLt _ _).2.2.2.2)) (by first | assumption | omega) hn.1 hn.2 (by first | exact gname_low hn.1 (by assumption) | exact gname_high (by assumption) hn.2)
    )
  have q_word := pin X0 T0 (C := fun K V TL w => C_word K V TL w) (by
    as_aux_lemma =>
      (repeat (rename _ => zz; clear zz))
      (rename World => w)
      with_unfolding_all intro news n t hn
      have e0 : n = -1 ∨ n = 16 ∨ (0 ≤ n ∧ n < 8) ∨ (8 ≤ n ∧ n ≤ 15) := by omega
      rcases e0 with rfl | rfl | h0 | h0
      · skip
        try (unfold Clls; k_fill; fail)
        k_dflt (refine' clls_enter ?k1j ?k2j ?k3j ?k4j ?k5j ?k6j ?k7j ?k8j ?_; (case k1j => k_is); (case k2j => k_is); (case k3j => exact fun _ => BindsTo.of_eq rfl); (case k4j => exact locs rfl); (case k5j => decide); (case k6j => exact rfl); (case k7j => exact rfl); (case k8j => exact rfl))
        intro mean mg mb dp un gd outer A₀ base h₀ L gs dw os h₁ tk E m B F X N T hG hd hu hE
        (try dsimp only)
        (try k_fold)
        repeat' (first | (k_unfold; (try dsimp only)) | walk1 | (dsimp only; walk1) | (leave1; (try dsimp only)) | fail "no step")
        all_goals (refine fin_s (by assumption) (by assumption) (by (first | (intro p hp; (repeat refine List.Mem.tail _ ?_); exact hp) | (intro p hp; ((repeat refine List.Mem.tail _ ?_); first | exact hp | (refine List.mem_append.mpr (.inl ?_); ((repeat refine List.Mem.tail _ ?_); first | exact hp | (refine List.mem_append.mpr (.inl ?_); ((repeat refine List.Mem.tail _ ?_); first | exact hp)) | (refine List.mem_append.mpr (.inr ?_); ((repeat refine List.Mem.tail _ ?_); first | exact hp)))) | (refine List.mem_append.mpr (.inr ?_); ((repeat refine List.Mem.tail _ ?_); first | exact hp | (refine List.mem_append.mpr (.inl ?_); ((repeat refine List.Mem.tail _ ?_); first | exact hp)) | (refine List.mem_append.mpr (.inr ?_); ((repeat refine List.Mem.tail _ ?_); first | exact hp)))))) | kcj_all)) ?_; first | (exfalso; omega) | exact wname_low (by omega) (by omega) | exact wname_high (by omega) (by omega) | decide +kernel)
      · skip
        try (unfold Clls; k_fill; fail)
        k_dflt (refine' clls_enter ?k1j ?k2j ?k3j ?k4j ?k5j ?k6j ?k7j ?k8j ?_; (case k1j => k_is); (case k2j => k_is); (case k3j => exact fun _ => BindsTo.of_eq rfl); (case k4j => exact locs rfl); (case k5j => decide); (case k6j => exact rfl); (case k7j => exact rfl); (case k8j => exact rfl))
        intro mean mg mb dp un gd outer A₀ base h₀ L gs dw os h₁ tk E m B F X N T hG hd hu hE
        (try dsimp only)
        (try k_fold)
        repeat' (first | (k_unfold; (try dsimp only)) | walk1 | (dsimp only; walk1) | (leave1; (try dsimp only)) | fail "no step")
        all_goals (refine fin_s (by assumption) (by assumption) (by (first | (intro p hp; (repeat refine List.Mem.tail _ ?_); exact hp) | (intro p hp; ((repeat refine List.Mem.tail _ ?_); first | exact hp | (refine List.mem_append.mpr (.inl ?_); ((repeat refine List.Mem.tail _ ?_); first | exact hp | (refine List.mem_append.mpr (.inl ?_); ((repeat refine List.Mem.tail _ ?_); first | exact hp)) | (refine List.mem_append.mpr (.inr ?_); ((repeat refine List.Mem.tail _ ?_); first | exact hp)))) | (refine List.mem_append.mpr (.inr ?_); ((repeat refine List.Mem.tail _ ?_); first | exact hp | (refine List.mem_append.mpr (.inl ?_); ((repeat refine List.Mem.tail _ ?_); first | exact hp)) | (refine List.mem_append.mpr (.inr ?_); ((repeat refine List.Mem.tail _ ?_); first | exact hp)))))) | kcj_all)) ?_; first | (exfalso; omega) | exact wname_low (by omega) (by omega) | exact wname_high (by omega) (by omega) | decide +kernel)
      · skip
        try (unfold Clls; k_fill; fail)
        k_dflt (refine' clls_enter ?k1j ?k2j ?k3j ?k4j ?k5j ?k6j ?k7j ?k8j ?_; (case k1j => k_is); (case k2j => k_is); (case k3j => exact fun _ => BindsTo.of_eq rfl); (case k4j => exact locs rfl); (case k5j => decide); (case k6j => exact rfl); (case k7j => exact rfl); (case k8j => exact rfl))
        intro mean mg mb dp un gd outer A₀ base h₀ L gs dw os h₁ tk E m B F X N T hG hd hu hE
        (try dsimp only)
        (try k_fold)
        repeat' (first | (k_unfold; (try dsimp only)) | walk1 | (dsimp only; walk1) | (leave1; (try dsimp only)) | fail "no step")
        all_goals (refine fin_s (by assumption) (by assumption) (by (first | (intro p hp; (repeat refine List.Mem.tail _ ?_); exact hp) | (intro p hp; ((repeat refine List.Mem.tail _ ?_); first | exact hp | (refine List.mem_append.mpr (.inl ?_); ((repeat refine List.Mem.tail _ ?_); first | exact hp | (refine List.mem_append.mpr (.inl ?_); ((repeat refine List.Mem.tail _ ?_); first | exact hp)) | (refine List.mem_append.mpr (.inr ?_); ((repeat refine List.Mem.tail _ ?_); first | exact hp)))) | (refine List.mem_append.mpr (.inr ?_); ((repeat refine List.Mem.tail _ ?_); first | exact hp | (refine List.mem_append.mpr (.inl ?_); ((repeat refine List.Mem.tail _ ?_); first | exact hp)) | (refine List.mem_append.mpr (.inr ?_); ((repeat refine List.Mem.tail _ ?_); first | exact hp)))))) | kcj_all)) ?_; first | (exfalso; omega) | exact wname_low (by omega) (by omega) | exact wname_high (by omega) (by omega) | decide +kernel)
      · skip
        try (unfold Clls; k_fill; fail)
        k_dflt (refine' clls_enter ?k1j ?k2j ?k3j ?k4j ?k5j ?k6j ?k7j ?k8j ?_; (case k1j => k_is); (case k2j => k_is); (case k3j => exact fun _ => BindsTo.of_eq rfl); (case k4j => exact locs rfl); (case k5j => decide); (case k6j => exact rfl); (case k7j => exact rfl); (case k8j => exact rfl))
        intro mean mg mb dp un gd outer A₀ base h₀ L gs dw os h₁ tk E m B F X N T hG hd hu hE
        (try dsimp only)
        (try k_fold)
        repeat' (first | (k_unfold; (try dsimp only)) | walk1 | (dsimp only; walk1) | (leave1; (try dsimp only)) | fail "no step")
        all_goals (refine fin_s (by assumption) (by assumption) (by (first | (intro p hp; (repeat refine List.Mem.tail _ ?_); exact hp) | (intro p hp; ((repeat refine List.Mem.tail _ ?_); first | exact hp | (refine List.mem_append.mpr (.inl ?_); ((repeat refine List.Mem.tail _ ?_); first | exact hp | (refine List.mem_append.mpr (.inl ?_); ((repeat refine List.Mem.tail _ ?_); first | exact hp)) | (refine List.mem_append.mpr (.inr ?_); ((repeat refine List.Mem.tail _ ?_); first | exact hp)))) | (refine List.mem_append.mpr (.inr ?_); ((repeat refine List.Mem.tail _ ?_); first | exact hp | (refine List.mem_append.mpr (.inl ?_); ((repeat refine List.Mem.tail _ ?_); first | exact hp)) | (refine List.mem_append.mpr (.inr ?_); ((repeat refine List.Mem.tail _ ?_); first | exact hp)))))) | kcj_all)) ?_; first | (exfalso; omega) | exact wname_low (by omega) (by omega) | exact wname_high (by omega) (by omega) | decide +kernel)
    )
  have q_mkmem7 := pin X0 T0 (C := fun K V TL w => C_mkmem7 K V TL w) (by
    as_aux_lemma =>
      (repeat (rename _ => zz; clear zz))
      (rename World => w)
      with_unfolding_all intro news v1 v2 b i sc wo sz sg nm s3 s4 s5 s6 s7 h1 h2
      unfold Clls
      k_fill
      intro mean mg mb dp un gd cn cs a ccd cl outer A₀ base h₀ L m s Q E B F X N T hG hk hd hu hret
      k_dflt (refine' call_cls ?k1j ?k2j ?k3j ?k4j ?k5j ?k6j ?_; (case k1j => k_asm); (case k2j => k_asm); (case k3j => k_asm); (case k4j => k_is); (case k5j => k_is); (case k6j => k_is); k_whole; intro x1 d1 h1 F1 N1 l1 l2; (try k_lt l1); (try k_lt2 l2); (try k_sweep))
      k_dflt (refine' code_def ?k1j ?k2j ?k3j ?k4j ?k5j ?kAj ?kFj ?kKj ?k6j ?k7j ?k8j ?k9j ?kBj ?_ ?c2j ?c3j ?c4j ?c5j; (case kAj => exact rfl); (case kFj => exact rfl); (case kKj => assumption); (case k1j => k_asm); (case k2j => k_asm); (case k3j => k_asm); (case k4j => k_asm); (case k5j => k_asm); (case k6j => k_is); (case k7j => k_is); (case k8j => ktr_room); (case k9j => exact binds_K (by k_in) rfl (by k_is) rfl rfl rfl); (case c5j => decide); (case kBj => exact locs rfl); (case c2j => exact rfl); (case c3j => exact rfl); (case c4j => exact rfl); k_whole; intro g2 L2 h2 FG2 F2 N2 B2 X2 T2; (try dsimp only); (try k_fold))
      repeat' (first | (k_unfold; (try dsimp only)) | walk1 | (dsimp only; walk1) | (leave1; (try dsimp only)) | fail "no step")
      all_goals exact back_add [(x1, _), (d1, _)] hret ⟨x1, d1, _, _, _, _, _, _, _, _, _, _, _, _, _, _, _, rfl, rfl⟩ (by assumption) (by assumption) (sub_two (by (repeat (first | exact List.Mem.head _ | refine List.Mem.tail _ ?_))) (by (repeat (first | exact List.Mem.head _ | refine List.Mem.tail _ ?_)))) (by (first | (intro p hp; (repeat refine List.Mem.tail _ ?_); exact hp) | (intro p hp; ((repeat refine List.Mem.tail _ ?_); first | exact hp | (refine List.mem_append.mpr (.inl ?_); ((repeat refine List.Mem.tail _ ?_); first | exact hp | (refine List.mem_append.mpr (.inl ?_); ((repeat refine List.Mem.tail _ ?_); first | exact hp)) | (refine List.mem_append.mpr (.inr ?_); ((repeat refine List.Mem.tail _ ?_); first | exact hp)))) | (refine List.mem_append.mpr (.inr ?_); ((repeat refine List.Mem.tail _ ?_); first | exact hp | (refine List.mem_append.mpr (.inl ?_); ((repeat refine List.Mem.tail _ ?_); first | exact hp)) | (refine List.mem_append.mpr (.inr ?_); ((repeat refine List.Mem.tail _ ?_); first | exact hp)))))) | kcj_all)) (lt_two (by (first | assumption | exact lt_from (by assumption) (by intro q hq; ((repeat refine List.Mem.tail _ ?_); first | exact hq | (refine List.mem_append.mpr (.inl ?_); ((repeat refine List.Mem.tail _ ?_); first | exact hq | (refine List.mem_append.mpr (.inl ?_); ((repeat refine List.Mem.tail _ ?_); first | exact hq)) | (refine List.mem_append.mpr (.inr ?_); ((repeat refine List.Mem.tail _ ?_); first | exact hq)))) | (refine List.mem_append.mpr (.inr ?_); ((repeat refine List.Mem.tail _ ?_); first | exact hq | (refine List.mem_append.mpr (.inl ?_); ((repeat refine List.Mem.tail _ ?_); first | exact hq)) | (refine List.mem_append.mpr (.inr ?_); ((repeat refine List.Mem.tail _ ?_); first | exact hq)))))) | exact allLt_of (by assumption) | exact (by assumption : _ ∧ AllLt _ _).2 | exact (by assumption : _ ∧ _ ∧ AllLt _ _).2.2 | exact (by assumption : _ ∧ _ ∧ _ ∧ AllLt _ _).2.2.2 | exact (by assumption : _ ∧ _ ∧ _ ∧ _ ∧ AllLt _ _).2.2.2.2)) (by first | assumption | omega))
    )
  have q_rip := pin X0 T0 (C := fun K V TL w => C_rip K V TL w) (by
    as_aux_lemma =>
      (repeat (rename _ => zz; clear zz))
      (rename World => w)
      with_unfolding_all intro news 
      try (unfold Clls; k_fill; fail)
      k_dflt (refine' clls_enter ?k1j ?k2j ?k3j ?k4j ?k5j ?k6j ?k7j ?k8j ?_; (case k1j => k_is); (case k2j => k_is); (case k3j => exact fun _ => BindsTo.of_eq rfl); (case k4j => exact locs rfl); (case k5j => decide); (case k6j => exact rfl); (case k7j => exact rfl); (case k8j => exact rfl))
      intro mean mg mb dp un gd outer A₀ base h₀ L gs dw os h₁ tk E m B F X N T hG hd hu hE
      (try dsimp only)
      (try k_fold)
      repeat' (first | (k_unfold; (try dsimp only)) | walk1 | (dsimp only; walk1) | (leave1; (try dsimp only)) | fail "no step")
      all_goals exact fin_rip (by assumption) (by assumption) (by k_mem) (by k_mem) (by (first | (intro p hp; (repeat refine List.Mem.tail _ ?_); exact hp) | (intro p hp; ((repeat refine List.Mem.tail _ ?_); first | exact hp | (refine List.mem_append.mpr (.inl ?_); ((repeat refine List.Mem.tail _ ?_); first | exact hp | (refine List.mem_append.mpr (.inl ?_); ((repeat refine List.Mem.tail _ ?_); first | exact hp)) | (refine List.mem_append.mpr (.inr ?_); ((repeat refine List.Mem.tail _ ?_); first | exact hp)))) | (refine List.mem_append.mpr (.inr ?_); ((repeat refine List.Mem.tail _ ?_); first | exact hp | (refine List.mem_append.mpr (.inl ?_); ((repeat refine List.Mem.tail _ ?_); first | exact hp)) | (refine List.mem_append.mpr (.inr ?_); ((repeat refine List.Mem.tail _ ?_); first | exact hp)))))) | kcj_all)) (by (first | assumption | exact lt_from (by assumption) (by intro q hq; ((repeat refine List.Mem.tail _ ?_); first | exact hq | (refine List.mem_append.mpr (.inl ?_); ((repeat refine List.Mem.tail _ ?_); first | exact hq | (refine List.mem_append.mpr (.inl ?_); ((repeat refine List.Mem.tail _ ?_); first | exact hq)) | (refine List.mem_append.mpr (.inr ?_); ((repeat refine List.Mem.tail _ ?_); first | exact hq)))) | (refine List.mem_append.mpr (.inr ?_); ((repeat refine List.Mem.tail _ ?_); first | exact hq | (refine List.mem_append.mpr (.inl ?_); ((repeat refine List.Mem.tail _ ?_); first | exact hq)) | (refine List.mem_append.mpr (.inr ?_); ((repeat refine List.Mem.tail _ ?_); first | exact hq)))))) | exact allLt_of (by assumption) | exact (by assumption : _ ∧ AllLt _ _).2 | exact (by assumption : _ ∧ _ ∧ AllLt _ _).2.2 | exact (by assumption : _ ∧ _ ∧ _ ∧ AllLt _ _).2.2.2 | exact (by assumption : _ ∧ _ ∧ _ ∧ _ ∧ AllLt _ _).2.2.2.2)) (by first | assumption | omega)
    )
  have q_lmem := pin X0 T0 (C := fun K V TL w => C_lmem K V TL w) (by
    as_aux_lemma =>
      revert q_rip q_gpr q_mkmem7
      (repeat (rename _ => zz; clear zz))
      (rename World => w)
      intro q_rip q_gpr q_mkmem7
      with_unfolding_all intro news D b i sc wo sz nm t1 t2 t3 t4 t5 t6 n hD hb hi
      try (unfold Clls; k_fill; fail)
      k_dflt (refine' clls_enter ?k1j ?k2j ?k3j ?k4j ?k5j ?k6j ?k7j ?k8j ?_; (case k1j => k_is); (case k2j => k_is); (case k3j => exact fun _ => BindsTo.of_eq rfl); (case k4j => exact locs rfl); (case k5j => decide); (case k6j => exact rfl); (case k7j => exact rfl); (case k8j => exact rfl))
      intro mean mg mb dp un gd outer A₀ base h₀ L gs dw os h₁ tk E m B F X N T hG hd hu hE
      (try dsimp only)
      (try k_fold)
      repeat' (first | (k_unfold; (try dsimp only)) | walk1 | (dsimp only; walk1) | (leave1; (try dsimp only)) | fail "no step")
      all_goals (refine' fin_mem _ _ (by assumption) (by assumption) ?h1j ?h2j ?g1j ?g2j ?s1j ?s2j ?hsj ?l1j ?l2j ?o1j ?o2j ?ej; (case h1j => (repeat (first | exact List.Mem.head _ | refine List.Mem.tail _ ?_))); (case h2j => (repeat (first | exact List.Mem.head _ | refine List.Mem.tail _ ?_))); (case g1j => first | exact (RegIn.none : RegIn _ [] _ _) | assumption); (case g2j => first | exact (RegIn.none : RegIn _ [] _ _) | assumption); (case s1j => first | exact no_sub | exact sub_two (by (repeat (first | exact List.Mem.head _ | refine List.Mem.tail _ ?_))) (by (repeat (first | exact List.Mem.head _ | refine List.Mem.tail _ ?_)))); (case s2j => first | exact no_sub | exact sub_two (by (repeat (first | exact List.Mem.head _ | refine List.Mem.tail _ ?_))) (by (repeat (first | exact List.Mem.head _ | refine List.Mem.tail _ ?_)))); (case hsj => (first | (intro p hp; (repeat refine List.Mem.tail _ ?_); exact hp) | (intro p hp; ((repeat refine List.Mem.tail _ ?_); first | exact hp | (refine List.mem_append.mpr (.inl ?_); ((repeat refine List.Mem.tail _ ?_); first | exact hp | (refine List.mem_append.mpr (.inl ?_); ((repeat refine List.Mem.tail _ ?_); first | exact hp)) | (refine List.mem_append.mpr (.inr ?_); ((repeat refine List.Mem.tail _ ?_); first | exact hp)))) | (refine List.mem_append.mpr (.inr ?_); ((repeat refine List.Mem.tail _ ?_); first | exact hp | (refine List.mem_append.mpr (.inl ?_); ((repeat refine List.Mem.tail _ ?_); first | exact hp)) | (refine List.mem_append.mpr (.inr ?_); ((repeat refine List.Mem.tail _ ?_); first | exact hp)))))) | kcj_all)); (case l1j => (first | assumption | exact lt_from (by assumption) (by intro q hq; ((repeat refine List.Mem.tail _ ?_); first | exact hq | (refine List.mem_append.mpr (.inl ?_); ((repeat refine List.Mem.tail _ ?_); first | exact hq | (refine List.mem_append.mpr (.inl ?_); ((repeat refine List.Mem.tail _ ?_); first | exact hq)) | (refine List.mem_append.mpr (.inr ?_); ((repeat refine List.Mem.tail _ ?_); first | exact hq)))) | (refine List.mem_append.mpr (.inr ?_); ((repeat refine List.Mem.tail _ ?_); first | exact hq | (refine List.mem_append.mpr (.inl ?_); ((repeat refine List.Mem.tail _ ?_); first | exact hq)) | (refine List.mem_append.mpr (.inr ?_); ((repeat refine List.Mem.tail _ ?_); first | exact hq)))))) | exact allLt_of (by assumption) | exact (by assumption : _ ∧ AllLt _ _).2 | exact (by assumption : _ ∧ _ ∧ AllLt _ _).2.2 | exact (by assumption : _ ∧ _ ∧ _ ∧ AllLt _ _).2.2.2 | exact (by assumption : _ ∧ _ ∧ _ ∧ _ ∧ AllLt _ _).2.2.2.2)); (case l2j => (first | assumption | exact lt_from (by assumption) (by intro q hq; ((repeat refine List.Mem.tail _ ?_); first | exact hq | (refine List.mem_append.mpr (.inl ?_); ((repeat refine List.Mem.tail _ ?_); first | exact hq | (refine List.mem_append.mpr (.inl ?_); ((repeat refine List.Mem.tail _ ?_); first | exact hq)) | (refine List.mem_append.mpr (.inr ?_); ((repeat refine List.Mem.tail _ ?_); first | exact hq)))) | (refine List.mem_append.mpr (.inr ?_); ((repeat refine List.Mem.tail _ ?_); first | exact hq | (refine List.mem_append.mpr (.inl ?_); ((repeat refine List.Mem.tail _ ?_); first | exact hq)) | (refine List.mem_append.mpr (.inr ?_); ((repeat refine List.Mem.tail _ ?_); first | exact hq)))))) | exact allLt_of (by assumption) | exact (by assumption : _ ∧ AllLt _ _).2 | exact (by assumption : _ ∧ _ ∧ AllLt _ _).2.2 | exact (by assumption : _ ∧ _ ∧ _ ∧ AllLt _ _).2.2.2 | exact (by assumption : _ ∧ _ ∧ _ ∧ _ ∧ AllLt _ _).2.2.2.2)); (case o1j => first | exact no_lt | exact lt_both (by (first | assumption | exact lt_from (by assumption) (by intro q hq; ((repeat refine List.Mem.tail _ ?_); first | exact hq | (refine List.mem_append.mpr (.inl ?_); ((repeat refine List.Mem.tail _ ?_); first | exact hq | (refine List.mem_append.mpr (.inl ?_); ((repeat refine List.Mem.tail _ ?_); first | exact hq)) | (refine List.mem_append.mpr (.inr ?_); ((repeat refine List.Mem.tail _ ?_); first | exact hq)))) | (refine List.mem_append.mpr (.inr ?_); ((repeat refine List.Mem.tail _ ?_); first | exact hq | (refine List.mem_append.mpr (.inl ?_); ((repeat refine List.Mem.tail _ ?_); first | exact hq)) | (refine List.mem_append.mpr (.inr ?_); ((repeat refine List.Mem.tail _ ?_); first | exact hq)))))) | exact allLt_of (by assumption) | exact (by assumption : _ ∧ AllLt _ _).2 | exact (by assumption : _ ∧ _ ∧ AllLt _ _).2.2 | exact (by assumption : _ ∧ _ ∧ _ ∧ AllLt _ _).2.2.2 | exact (by assumption : _ ∧ _ ∧ _ ∧ _ ∧ AllLt _ _).2.2.2.2)) (by (first | assumption | exact lt_from (by assumption) (by intro q hq; ((repeat refine List.Mem.tail _ ?_); first | exact hq | (refine List.mem_append.mpr (.inl ?_); ((repeat refine List.Mem.tail _ ?_); first | exact hq | (refine List.mem_append.mpr (.inl ?_); ((repeat refine List.Mem.tail _ ?_); first | exact hq)) | (refine List.mem_append.mpr (.inr ?_); ((repeat refine List.Mem.tail _ ?_); first | exact hq)))) | (refine List.mem_append.mpr (.inr ?_); ((repeat refine List.Mem.tail _ ?_); first | exact hq | (refine List.mem_append.mpr (.inl ?_); ((repeat refine List.Mem.tail _ ?_); first | exact hq)) | (refine List.mem_append.mpr (.inr ?_); ((repeat refine List.Mem.tail _ ?_); first | exact hq)))))) | exact allLt_of (by assumption) | exact (by assumption : _ ∧ AllLt _ _).2 | exact (by assumption : _ ∧ _ ∧ AllLt _ _).2.2 | exact (by assumption : _ ∧ _ ∧ _ ∧ AllLt _ _).2.2.2 | exact (by assumption : _ ∧ _ ∧ _ ∧ _ ∧ AllLt _ _).2.2.2.2))); (case o2j => first | exact no_lt | exact lt_both (by (first | assumption | exact lt_from (by assumption) (by intro q hq; ((repeat refine List.Mem.tail _ ?_); first | exact hq | (refine List.mem_append.mpr (.inl ?_); ((repeat refine List.Mem.tail _ ?_); first | exact hq | (refine List.mem_append.mpr (.inl ?_); ((repeat refine List.Mem.tail _ ?_); first | exact hq)) | (refine List.mem_append.mpr (.inr ?_); ((repeat refine List.Mem.tail _ ?_); first | exact hq)))) | (refine List.mem_append.mpr (.inr ?_); ((repeat refine List.Mem.tail _ ?_); first | exact hq | (refine List.mem_append.mpr (.inl ?_); ((repeat refine List.Mem.tail _ ?_); first | exact hq)) | (refine List.mem_append.mpr (.inr ?_); ((repeat refine List.Mem.tail _ ?_); first | exact hq)))))) | exact allLt_of (by assumption) | exact (by assumption : _ ∧ AllLt _ _).2 | exact (by assumption : _ ∧ _ ∧ AllLt _ _).2.2 | exact (by assumption : _ ∧ _ ∧ _ ∧ AllLt _ _).2.2.2 | exact (by assumption : _ ∧ _ ∧ _ ∧ _ ∧ AllLt _ _).2.2.2.2)) (by (first | assumption | exact lt_from (by assumption) (by intro q hq; ((repeat refine List.Mem.tail _ ?_); first | exact hq | (refine List.mem_append.mpr (.inl ?_); ((repeat refine List.Mem.tail _ ?_); first | exact hq | (refine List.mem_append.mpr (.inl ?_); ((repeat refine List.Mem.tail _ ?_); first | exact hq)) | (refine List.mem_append.mpr (.inr ?_); ((repeat refine List.Mem.tail _ ?_); first | exact hq)))) | (refine List.mem_append.mpr (.inr ?_); ((repeat refine List.Mem.tail _ ?_); first | exact hq | (refine List.mem_append.mpr (.inl ?_); ((repeat refine List.Mem.tail _ ?_); first | exact hq)) | (refine List.mem_append.mpr (.inr ?_); ((repeat refine List.Mem.tail _ ?_); first | exact hq)))))) | exact allLt_of (by assumption) | exact (by assumption : _ ∧ AllLt _ _).2 | exact (by assumption : _ ∧ _ ∧ AllLt _ _).2.2 | exact (by assumption : _ ∧ _ ∧ _ ∧ AllLt _ _).2.2.2 | exact (by assumption : _ ∧ _ ∧ _ ∧ _ ∧ AllLt _ _).2.2.2.2))); (case ej => (refine Prod.ext ?_ (Prod.ext ?_ ?_) <;> first | rfl | (dsimp only; omega))))
    )
  have q_extbit := pin X0 T0 (C := fun K V TL w => C_extbit K V TL w) (by
    as_aux_lemma =>
      (repeat (rename _ => zz; clear zz))
      (rename World => w)
      with_unfolding_all intro news v b h
      cases h
      · skip
        try (unfold Clls; k_fill; fail)
        k_dflt (refine' clls_enter ?k1j ?k2j ?k3j ?k4j ?k5j ?k6j ?k7j ?k8j ?_; (case k1j => k_is); (case k2j => k_is); (case k3j => exact fun _ => BindsTo.of_eq rfl); (case k4j => exact locs rfl); (case k5j => decide); (case k6j => exact rfl); (case k7j => exact rfl); (case k8j => exact rfl))
        intro mean mg mb dp un gd outer A₀ base h₀ L gs dw os h₁ tk E m B F X N T hG hd hu hE
        (try dsimp only)
        (try k_fold)
        repeat' (first | (k_unfold; (try dsimp only)) | walk1 | (dsimp only; walk1) | (leave1; (try dsimp only)) | fail "no step")
        all_goals (refine fin_i (by assumption) (by assumption) (by (first | (intro p hp; (repeat refine List.Mem.tail _ ?_); exact hp) | (intro p hp; ((repeat refine List.Mem.tail _ ?_); first | exact hp | (refine List.mem_append.mpr (.inl ?_); ((repeat refine List.Mem.tail _ ?_); first | exact hp | (refine List.mem_append.mpr (.inl ?_); ((repeat refine List.Mem.tail _ ?_); first | exact hp)) | (refine List.mem_append.mpr (.inr ?_); ((repeat refine List.Mem.tail _ ?_); first | exact hp)))) | (refine List.mem_append.mpr (.inr ?_); ((repeat refine List.Mem.tail _ ?_); first | exact hp | (refine List.mem_append.mpr (.inl ?_); ((repeat refine List.Mem.tail _ ?_); first | exact hp)) | (refine List.mem_append.mpr (.inr ?_); ((repeat refine List.Mem.tail _ ?_); first | exact hp)))))) | kcj_all)) ?_; unfold ext; (try simp only [decide_eq_true_eq]); (try ((repeat' split) <;> first | rfl | omega)))
      · skip
        try (unfold Clls; k_fill; fail)
        k_dflt (refine' clls_enter ?k1j ?k2j ?k3j ?k4j ?k5j ?k6j ?k7j ?k8j ?_; (case k1j => k_is); (case k2j => k_is); (case k3j => exact fun _ => BindsTo.of_eq rfl); (case k4j => exact locs rfl); (case k5j => decide); (case k6j => exact rfl); (case k7j => exact rfl); (case k8j => exact rfl))
        intro mean mg mb dp un gd outer A₀ base h₀ L gs dw os h₁ tk E m B F X N T hG hd hu hE
        (try dsimp only)
        (try k_fold)
        repeat' (first | (k_unfold; (try dsimp only)) | walk1 | (dsimp only; walk1) | (leave1; (try dsimp only)) | fail "no step")
        all_goals (refine fin_i (by assumption) (by assumption) (by (first | (intro p hp; (repeat refine List.Mem.tail _ ?_); exact hp) | (intro p hp; ((repeat refine List.Mem.tail _ ?_); first | exact hp | (refine List.mem_append.mpr (.inl ?_); ((repeat refine List.Mem.tail _ ?_); first | exact hp | (refine List.mem_append.mpr (.inl ?_); ((repeat refine List.Mem.tail _ ?_); first | exact hp)) | (refine List.mem_append.mpr (.inr ?_); ((repeat refine List.Mem.tail _ ?_); first | exact hp)))) | (refine List.mem_append.mpr (.inr ?_); ((repeat refine List.Mem.tail _ ?_); first | exact hp | (refine List.mem_append.mpr (.inl ?_); ((repeat refine List.Mem.tail _ ?_); first | exact hp)) | (refine List.mem_append.mpr (.inr ?_); ((repeat refine List.Mem.tail _ ?_); first | exact hp)))))) | kcj_all)) ?_; unfold ext; (try simp only [decide_eq_true_eq]); (try ((repeat' split) <;> first | rfl | omega)))
      · skip
        try (unfold Clls; k_fill; fail)
        k_dflt (refine' clls_enter ?k1j ?k2j ?k3j ?k4j ?k5j ?k6j ?k7j ?k8j ?_; (case k1j => k_is); (case k2j => k_is); (case k3j => exact fun _ => BindsTo.of_eq rfl); (case k4j => exact locs rfl); (case k5j => decide); (case k6j => exact rfl); (case k7j => exact rfl); (case k8j => exact rfl))
        intro mean mg mb dp un gd outer A₀ base h₀ L gs dw os h₁ tk E m B F X N T hG hd hu hE
        (try dsimp only)
        (try k_fold)
        repeat' (first | (k_unfold; (try dsimp only)) | walk1 | (dsimp only; walk1) | (leave1; (try dsimp only)) | fail "no step")
        all_goals (refine fin_i (by assumption) (by assumption) (by (first | (intro p hp; (repeat refine List.Mem.tail _ ?_); exact hp) | (intro p hp; ((repeat refine List.Mem.tail _ ?_); first | exact hp | (refine List.mem_append.mpr (.inl ?_); ((repeat refine List.Mem.tail _ ?_); first | exact hp | (refine List.mem_append.mpr (.inl ?_); ((repeat refine List.Mem.tail _ ?_); first | exact hp)) | (refine List.mem_append.mpr (.inr ?_); ((repeat refine List.Mem.tail _ ?_); first | exact hp)))) | (refine List.mem_append.mpr (.inr ?_); ((repeat refine List.Mem.tail _ ?_); first | exact hp | (refine List.mem_append.mpr (.inl ?_); ((repeat refine List.Mem.tail _ ?_); first | exact hp)) | (refine List.mem_append.mpr (.inr ?_); ((repeat refine List.Mem.tail _ ?_); first | exact hp)))))) | kcj_all)) ?_; unfold ext; (try simp only [decide_eq_true_eq]); (try ((repeat' split) <;> first | rfl | omega)))
    )
  have q_needs := pin X0 T0 (C := fun K V TL w => C_needs K V TL w) (by
    as_aux_lemma =>
      (repeat (rename _ => zz; clear zz))
      (rename World => w)
      with_unfolding_all intro news v b i sc wo sz sg nm hm
      obtain @⟨x, dx, v1, v2, _, _, _, _, _, _, _, k0, k1, k2, k3, k4, k5, k6, k7, t0, t3, t4, t5, t6, t7, n, hx, hd1, hb, hi⟩ := hm
      rcases hi.split with ⟨rfl, rfl⟩ | ⟨hi1, r, rfl⟩
      · cases hb
        · skip
          try (unfold Clls; k_fill; fail)
          k_dflt (refine' clls_enter ?k1j ?k2j ?k3j ?k4j ?k5j ?k6j ?k7j ?k8j ?_; (case k1j => k_is); (case k2j => k_is); (case k3j => exact fun _ => BindsTo.of_eq rfl); (case k4j => exact locs rfl); (case k5j => decide); (case k6j => exact rfl); (case k7j => exact rfl); (case k8j => exact rfl))
          intro mean mg mb dp un gd outer A₀ base h₀ L gs dw os h₁ tk E m B F X N T hG hd hu hE
          (try dsimp only)
          (try k_fold)
          repeat' (first | (k_unfold; (try dsimp only)) | walk1 | (dsimp only; walk1) | (leave1; (try dsimp only)) | fail "no step")
          all_goals (refine fin_b (by assumption) (by assumption) (by (first | (intro p hp; (repeat refine List.Mem.tail _ ?_); exact hp) | (intro p hp; ((repeat refine List.Mem.tail _ ?_); first | exact hp | (refine List.mem_append.mpr (.inl ?_); ((repeat refine List.Mem.tail _ ?_); first | exact hp | (refine List.mem_append.mpr (.inl ?_); ((repeat refine List.Mem.tail _ ?_); first | exact hp)) | (refine List.mem_append.mpr (.inr ?_); ((repeat refine List.Mem.tail _ ?_); first | exact hp)))) | (refine List.mem_append.mpr (.inr ?_); ((repeat refine List.Mem.tail _ ?_); first | exact hp | (refine List.mem_append.mpr (.inl ?_); ((repeat refine List.Mem.tail _ ?_); first | exact hp)) | (refine List.mem_append.mpr (.inr ?_); ((repeat refine List.Mem.tail _ ?_); first | exact hp)))))) | kcj_all)) ?_; decide)
        · skip
          try (unfold Clls; k_fill; fail)
          k_dflt (refine' clls_enter ?k1j ?k2j ?k3j ?k4j ?k5j ?k6j ?k7j ?k8j ?_; (case k1j => k_is); (case k2j => k_is); (case k3j => exact fun _ => BindsTo.of_eq rfl); (case k4j => exact locs rfl); (case k5j => decide); (case k6j => exact rfl); (case k7j => exact rfl); (case k8j => exact rfl))
          intro mean mg mb dp un gd outer A₀ base h₀ L gs dw os h₁ tk E m B F X N T hG hd hu hE
          (try dsimp only)
          (try k_fold)
          repeat' (first | (k_unfold; (try dsimp only)) | walk1 | (dsimp only; walk1) | (leave1; (try dsimp only)) | fail "no step")
          all_goals (refine fin_b (by assumption) (by assumption) (by (first | (intro p hp; (repeat refine List.Mem.tail _ ?_); exact hp) | (intro p hp; ((repeat refine List.Mem.tail _ ?_); first | exact hp | (refine List.mem_append.mpr (.inl ?_); ((repeat refine List.Mem.tail _ ?_); first | exact hp | (refine List.mem_append.mpr (.inl ?_); ((repeat refine List.Mem.tail _ ?_); first | exact hp)) | (refine List.mem_append.mpr (.inr ?_); ((repeat refine List.Mem.tail _ ?_); first | exact hp)))) | (refine List.mem_append.mpr (.inr ?_); ((repeat refine List.Mem.tail _ ?_); first | exact hp | (refine List.mem_append.mpr (.inl ?_); ((repeat refine List.Mem.tail _ ?_); first | exact hp)) | (refine List.mem_append.mpr (.inr ?_); ((repeat refine List.Mem.tail _ ?_); first | exact hp)))))) | kcj_all)) ?_; decide)
        · skip
          try (unfold Clls; k_fill; fail)
          k_dflt (refine' clls_enter ?k1j ?k2j ?k3j ?k4j ?k5j ?k6j ?k7j ?k8j ?_; (case k1j => k_is); (case k2j => k_is); (case k3j => exact fun _ => BindsTo.of_eq rfl); (case k4j => exact locs rfl); (case k5j => decide); (case k6j => exact rfl); (case k7j => exact rfl); (case k8j => exact rfl))
          intro mean mg mb dp un gd outer A₀ base h₀ L gs dw os h₁ tk E m B F X N T hG hd hu hE
          (try dsimp only)
          (try k_fold)
          repeat' (first | (k_unfold; (try dsimp only)) | walk1 | (dsimp only; walk1) | (leave1; (try dsimp only)) | fail "no step")
          all_goals (refine fin_b (by assumption) (by assumption) (by (first | (intro p hp; (repeat refine List.Mem.tail _ ?_); exact hp) | (intro p hp; ((repeat refine List.Mem.tail _ ?_); first | exact hp | (refine List.mem_append.mpr (.inl ?_); ((repeat refine List.Mem.tail _ ?_); first | exact hp | (refine List.mem_append.mpr (.inl ?_); ((repeat refine List.Mem.tail _ ?_); first | exact hp)) | (refine List.mem_append.mpr (.inr ?_); ((repeat refine List.Mem.tail _ ?_); first | exact hp)))) | (refine List.mem_append.mpr (.inr ?_); ((repeat refine List.Mem.tail _ ?_); first | exact hp | (refine List.mem_append.mpr (.inl ?_); ((repeat refine List.Mem.tail _ ?_); first | exact hp)) | (refine List.mem_append.mpr (.inr ?_); ((repeat refine List.Mem.tail _ ?_); first | exact hp)))))) | kcj_all)) ?_; rw [bit7 (by assumption) (by assumption)]; unfold needsSib; rw [decide_eq_false (show ¬ ((-1 : Int) ≠ -1) by omega), decide_eq_false (by omega), decide_eq_true (by omega), Bool.false_or, Bool.false_or, Bool.true_and, Bool.eq_iff_iff, beq_iff_eq, decide_eq_true_eq])
      · skip
        try (unfold Clls; k_fill; fail)
        k_dflt (refine' clls_enter ?k1j ?k2j ?k3j ?k4j ?k5j ?k6j ?k7j ?k8j ?_; (case k1j => k_is); (case k2j => k_is); (case k3j => exact fun _ => BindsTo.of_eq rfl); (case k4j => exact locs rfl); (case k5j => decide); (case k6j => exact rfl); (case k7j => exact rfl); (case k8j => exact rfl))
        intro mean mg mb dp un gd outer A₀ base h₀ L gs dw os h₁ tk E m B F X N T hG hd hu hE
        (try dsimp only)
        (try k_fold)
        repeat' (first | (k_unfold; (try dsimp only)) | walk1 | (dsimp only; walk1) | (leave1; (try dsimp only)) | fail "no step")
        all_goals (refine fin_b (by assumption) (by assumption) (by (first | (intro p hp; (repeat refine List.Mem.tail _ ?_); exact hp) | (intro p hp; ((repeat refine List.Mem.tail _ ?_); first | exact hp | (refine List.mem_append.mpr (.inl ?_); ((repeat refine List.Mem.tail _ ?_); first | exact hp | (refine List.mem_append.mpr (.inl ?_); ((repeat refine List.Mem.tail _ ?_); first | exact hp)) | (refine List.mem_append.mpr (.inr ?_); ((repeat refine List.Mem.tail _ ?_); first | exact hp)))) | (refine List.mem_append.mpr (.inr ?_); ((repeat refine List.Mem.tail _ ?_); first | exact hp | (refine List.mem_append.mpr (.inl ?_); ((repeat refine List.Mem.tail _ ?_); first | exact hp)) | (refine List.mem_append.mpr (.inr ?_); ((repeat refine List.Mem.tail _ ?_); first | exact hp)))))) | kcj_all)) ?_; unfold needsSib; rw [decide_eq_true (by omega), Bool.true_or])
    )
  have q_pack := pin X0 T0 (C := fun K V TL w => C_pack K V TL w) (by
    as_aux_lemma =>
      (repeat (rename _ => zz; clear zz))
      (rename World => w)
      with_unfolding_all intro news a1 b1 c1 t1 t2 t3 h
      try (unfold Clls; k_fill; fail)
      k_dflt (refine' clls_enter ?k1j ?k2j ?k3j ?k4j ?k5j ?k6j ?k7j ?k8j ?_; (case k1j => k_is); (case k2j => k_is); (case k3j => exact fun _ => BindsTo.of_eq rfl); (case k4j => exact locs rfl); (case k5j => decide); (case k6j => exact rfl); (case k7j => exact rfl); (case k8j => exact rfl))
      intro mean mg mb dp un gd outer A₀ base h₀ L gs dw os h₁ tk E m B F X N T hG hd hu hE
      (try dsimp only)
      (try k_fold)
      repeat' (first | (k_unfold; (try dsimp only)) | walk1 | (dsimp only; walk1) | (leave1; (try dsimp only)) | fail "no step")
      all_goals (refine fin_i (by assumption) (by assumption) (by (first | (intro p hp; (repeat refine List.Mem.tail _ ?_); exact hp) | (intro p hp; ((repeat refine List.Mem.tail _ ?_); first | exact hp | (refine List.mem_append.mpr (.inl ?_); ((repeat refine List.Mem.tail _ ?_); first | exact hp | (refine List.mem_append.mpr (.inl ?_); ((repeat refine List.Mem.tail _ ?_); first | exact hp)) | (refine List.mem_append.mpr (.inr ?_); ((repeat refine List.Mem.tail _ ?_); first | exact hp)))) | (refine List.mem_append.mpr (.inr ?_); ((repeat refine List.Mem.tail _ ?_); first | exact hp | (refine List.mem_append.mpr (.inl ?_); ((repeat refine List.Mem.tail _ ?_); first | exact hp)) | (refine List.mem_append.mpr (.inr ?_); ((repeat refine List.Mem.tail _ ?_); first | exact hp)))))) | kcj_all)) ?_; first | rfl | (simp [*]; done) | ((try simp only []); (try ((repeat' split) <;> first | rfl | omega))))
    )
  have q_shift := pin X0 T0 (C := fun K V TL w => C_shift K V TL w) (by
    as_aux_lemma =>
      (repeat (rename _ => zz; clear zz))
      (rename World => w)
      with_unfolding_all intro news z t1 hz
      try (unfold Clls; k_fill; fail)
      k_dflt (refine' clls_enter ?k1j ?k2j ?k3j ?k4j ?k5j ?k6j ?k7j ?k8j ?_; (case k1j => k_is); (case k2j => k_is); (case k3j => exact fun _ => BindsTo.of_eq rfl); (case k4j => exact locs rfl); (case k5j => decide); (case k6j => exact rfl); (case k7j => exact rfl); (case k8j => exact rfl))
      intro mean mg mb dp un gd outer A₀ base h₀ L gs dw os h₁ tk E m B F X N T hG hd hu hE
      (try dsimp only)
      (try k_fold)
      repeat' (first | (k_unfold; (try dsimp only)) | walk1 | (dsimp only; walk1) | (leave1; (try dsimp only)) | fail "no step")
      all_goals (refine fin_i (by assumption) (by assumption) (by (first | (intro p hp; (repeat refine List.Mem.tail _ ?_); exact hp) | (intro p hp; ((repeat refine List.Mem.tail _ ?_); first | exact hp | (refine List.mem_append.mpr (.inl ?_); ((repeat refine List.Mem.tail _ ?_); first | exact hp | (refine List.mem_append.mpr (.inl ?_); ((repeat refine List.Mem.tail _ ?_); first | exact hp)) | (refine List.mem_append.mpr (.inr ?_); ((repeat refine List.Mem.tail _ ?_); first | exact hp)))) | (refine List.mem_append.mpr (.inr ?_); ((repeat refine List.Mem.tail _ ?_); first | exact hp | (refine List.mem_append.mpr (.inl ?_); ((repeat refine List.Mem.tail _ ?_); first | exact hp)) | (refine List.mem_append.mpr (.inr ?_); ((repeat refine List.Mem.tail _ ?_); first | exact hp)))))) | kcj_all)) ?_; first | rfl | (simp [shiftOf, *]; done) | ((try simp only [shiftOf]); (try ((repeat' split) <;> first | rfl | omega))))
    )
  have q_sibfor := pin X0 T0 (C := fun K V TL w => C_sibfor K V TL w) (by
    as_aux_lemma =>
      revert q_pack q_shift
      (repeat (rename _ => zz; clear zz))
      (rename World => w)
      intro q_pack q_shift
      with_unfolding_all intro news v b i sc wo sz sg nm hm hb16 hi16 hsc
      have q1 : 0 ≤ b → b ≤ 15 → 0 ≤ Builtin.bitAnd b 7 ∧ Builtin.bitAnd b 7 ≤ 7 := fun h h' => by have := @fm8 b; rw [bit7 h h']; omega
      have q2 : 0 ≤ i → i ≤ 15 → 0 ≤ Builtin.bitAnd i 7 ∧ Builtin.bitAnd i 7 ≤ 7 := fun h h' => by have := @fm8 i; rw [bit7 h h']; omega
      have q3 : 0 ≤ shiftOf sc ∧ shiftOf sc ≤ 3 := by unfold shiftOf; (repeat' split) <;> omega
      obtain @⟨x, dx, v1, v2, _, _, _, _, _, _, _, k0, k1, k2, k3, k4, k5, k6, k7, t0, t3, t4, t5, t6, t7, n, hx, hd1, hb, hi⟩ := hm
      cases hb
      · cases hi
        · skip
          try (unfold Clls; k_fill; fail)
          k_dflt (refine' clls_enter ?k1j ?k2j ?k3j ?k4j ?k5j ?k6j ?k7j ?k8j ?_; (case k1j => k_is); (case k2j => k_is); (case k3j => exact fun _ => BindsTo.of_eq rfl); (case k4j => exact locs rfl); (case k5j => decide); (case k6j => exact rfl); (case k7j => exact rfl); (case k8j => exact rfl))
          intro mean mg mb dp un gd outer A₀ base h₀ L gs dw os h₁ tk E m B F X N T hG hd hu hE
          (try dsimp only)
          (try k_fold)
          repeat' (first | (k_unfold; (try dsimp only)) | walk1 | (dsimp only; walk1) | (leave1; (try dsimp only)) | fail "no step")
          all_goals (refine fin_i (by assumption) (by assumption) (by (first | (intro p hp; (repeat refine List.Mem.tail _ ?_); exact hp) | (intro p hp; ((repeat refine List.Mem.tail _ ?_); first | exact hp | (refine List.mem_append.mpr (.inl ?_); ((repeat refine List.Mem.tail _ ?_); first | exact hp | (refine List.mem_append.mpr (.inl ?_); ((repeat refine List.Mem.tail _ ?_); first | exact hp)) | (refine List.mem_append.mpr (.inr ?_); ((repeat refine List.Mem.tail _ ?_); first | exact hp)))) | (refine List.mem_append.mpr (.inr ?_); ((repeat refine List.Mem.tail _ ?_); first | exact hp | (refine List.mem_append.mpr (.inl ?_); ((repeat refine List.Mem.tail _ ?_); first | exact hp)) | (refine List.mem_append.mpr (.inr ?_); ((repeat refine List.Mem.tail _ ?_); first | exact hp)))))) | kcj_all)) ?_; rfl)
        · exact absurd rfl hi16
        · have q5 := q2 (by assumption) (by assumption)
          try (unfold Clls; k_fill; fail)
          k_dflt (refine' clls_enter ?k1j ?k2j ?k3j ?k4j ?k5j ?k6j ?k7j ?k8j ?_; (case k1j => k_is); (case k2j => k_is); (case k3j => exact fun _ => BindsTo.of_eq rfl); (case k4j => exact locs rfl); (case k5j => decide); (case k6j => exact rfl); (case k7j => exact rfl); (case k8j => exact rfl))
          intro mean mg mb dp un gd outer A₀ base h₀ L gs dw os h₁ tk E m B F X N T hG hd hu hE
          (try dsimp only)
          (try k_fold)
          repeat' (first | (k_unfold; (try dsimp only)) | walk1 | (dsimp only; walk1) | (leave1; (try dsimp only)) | fail "no step")
          all_goals (refine fin_i (by assumption) (by assumption) (by (first | (intro p hp; (repeat refine List.Mem.tail _ ?_); exact hp) | (intro p hp; ((repeat refine List.Mem.tail _ ?_); first | exact hp | (refine List.mem_append.mpr (.inl ?_); ((repeat refine List.Mem.tail _ ?_); first | exact hp | (refine List.mem_append.mpr (.inl ?_); ((repeat refine List.Mem.tail _ ?_); first | exact hp)) | (refine List.mem_append.mpr (.inr ?_); ((repeat refine List.Mem.tail _ ?_); first | exact hp)))) | (refine List.mem_append.mpr (.inr ?_); ((repeat refine List.Mem.tail _ ?_); first | exact hp | (refine List.mem_append.mpr (.inl ?_); ((repeat refine List.Mem.tail _ ?_); first | exact hp)) | (refine List.mem_append.mpr (.inr ?_); ((repeat refine List.Mem.tail _ ?_); first | exact hp)))))) | kcj_all)) ?_; (try rw [bit7 (b := b) (by assumption) (by assumption)]); (try rw [bit7 (b := i) (by assumption) (by assumption)]); simp only [sibOf, code]; (repeat' split) <;> first | rfl | omega)
      · exact absurd rfl hb16
      · have q4 := q1 (by assumption) (by assumption)
        cases hi
        · skip
          try (unfold Clls; k_fill; fail)
          k_dflt (refine' clls_enter ?k1j ?k2j ?k3j ?k4j ?k5j ?k6j ?k7j ?k8j ?_; (case k1j => k_is); (case k2j => k_is); (case k3j => exact fun _ => BindsTo.of_eq rfl); (case k4j => exact locs rfl); (case k5j => decide); (case k6j => exact rfl); (case k7j => exact rfl); (case k8j => exact rfl))
          intro mean mg mb dp un gd outer A₀ base h₀ L gs dw os h₁ tk E m B F X N T hG hd hu hE
          (try dsimp only)
          (try k_fold)
          repeat' (first | (k_unfold; (try dsimp only)) | walk1 | (dsimp only; walk1) | (leave1; (try dsimp only)) | fail "no step")
          all_goals (refine fin_i (by assumption) (by assumption) (by (first | (intro p hp; (repeat refine List.Mem.tail _ ?_); exact hp) | (intro p hp; ((repeat refine List.Mem.tail _ ?_); first | exact hp | (refine List.mem_append.mpr (.inl ?_); ((repeat refine List.Mem.tail _ ?_); first | exact hp | (refine List.mem_append.mpr (.inl ?_); ((repeat refine List.Mem.tail _ ?_); first | exact hp)) | (refine List.mem_append.mpr (.inr ?_); ((repeat refine List.Mem.tail _ ?_); first | exact hp)))) | (refine List.mem_append.mpr (.inr ?_); ((repeat refine List.Mem.tail _ ?_); first | exact hp | (refine List.mem_append.mpr (.inl ?_); ((repeat refine List.Mem.tail _ ?_); first | exact hp)) | (refine List.mem_append.mpr (.inr ?_); ((repeat refine List.Mem.tail _ ?_); first | exact hp)))))) | kcj_all)) ?_; (try rw [bit7 (b := b) (by assumption) (by assumption)]); (try rw [bit7 (b := i) (by assumption) (by assumption)]); simp only [sibOf, code]; (repeat' split) <;> first | rfl | omega)
        · exact absurd rfl hi16
        · have q5 := q2 (by assumption) (by assumption)
          try (unfold Clls; k_fill; fail)
          k_dflt (refine' clls_enter ?k1j ?k2j ?k3j ?k4j ?k5j ?k6j ?k7j ?k8j ?_; (case k1j => k_is); (case k2j => k_is); (case k3j => exact fun _ => BindsTo.of_eq rfl); (case k4j => exact locs rfl); (case k5j => decide); (case k6j => exact rfl); (case k7j => exact rfl); (case k8j => exact rfl))
          intro mean mg mb dp un gd outer A₀ base h₀ L gs dw os h₁ tk E m B F X N T hG hd hu hE
          (try dsimp only)
          (try k_fold)
          repeat' (first | (k_unfold; (try dsimp only)) | walk1 | (dsimp only; walk1) | (leave1; (try dsimp only)) | fail "no step")
          all_goals (refine fin_i (by assumption) (by assumption) (by (first | (intro p hp; (repeat refine List.Mem.tail _ ?_); exact hp) | (intro p hp; ((repeat refine List.Mem.tail _ ?_); first | exact hp | (refine List.mem_append.mpr (.inl ?_); ((repeat refine List.Mem.tail _ ?_); first | exact hp | (refine List.mem_append.mpr (.inl ?_); ((repeat refine List.Mem.tail _ ?_); first | exact hp)) | (refine List.mem_append.mpr (.inr ?_); ((repeat refine List.Mem.tail _ ?_); first | exact hp)))) | (refine List.mem_append.mpr (.inr ?_); ((repeat refine List.Mem.tail _ ?_); first | exact hp | (refine List.mem_append.mpr (.inl ?_); ((repeat refine List.Mem.tail _ ?_); first | exact hp)) | (refine List.mem_append.mpr (.inr ?_); ((repeat refine List.Mem.tail _ ?_); first | exact hp)))))) | kcj_all)) ?_; (try rw [bit7 (b := b) (by assumption) (by assumption)]); (try rw [bit7 (b := i) (by assumption) (by assumption)]); simp only [sibOf, code]; (repeat' split) <;> first | rfl | omega)
    )
  have q_fits8 := pin X0 T0 (C := fun K V TL w => C_fits8 K V TL w) (by
    as_aux_lemma =>
      (repeat (rename _ => zz; clear zz))
      (rename World => w)
      with_unfolding_all intro news n t1 t2
      have e1 : (2:Int) ^ ((8:Int) - 1).toNat = 128 := by decide
      try (unfold Clls; k_fill; fail)
      k_dflt (refine' clls_enter ?k1j ?k2j ?k3j ?k4j ?k5j ?k6j ?k7j ?k8j ?_; (case k1j => k_is); (case k2j => k_is); (case k3j => exact fun _ => BindsTo.of_eq rfl); (case k4j => exact locs rfl); (case k5j => decide); (case k6j => exact rfl); (case k7j => exact rfl); (case k8j => exact rfl))
      intro mean mg mb dp un gd outer A₀ base h₀ L gs dw os h₁ tk E m B F X N T hG hd hu hE
      (try dsimp only)
      (try k_fold)
      repeat' (first | (k_unfold; (try dsimp only)) | walk1 | (dsimp only; walk1) | (leave1; (try dsimp only)) | fail "no step")
      all_goals (refine fin_b (by assumption) (by assumption) (by (first | (intro p hp; (repeat refine List.Mem.tail _ ?_); exact hp) | (intro p hp; ((repeat refine List.Mem.tail _ ?_); first | exact hp | (refine List.mem_append.mpr (.inl ?_); ((repeat refine List.Mem.tail _ ?_); first | exact hp | (refine List.mem_append.mpr (.inl ?_); ((repeat refine List.Mem.tail _ ?_); first | exact hp)) | (refine List.mem_append.mpr (.inr ?_); ((repeat refine List.Mem.tail _ ?_); first | exact hp)))) | (refine List.mem_append.mpr (.inr ?_); ((repeat refine List.Mem.tail _ ?_); first | exact hp | (refine List.mem_append.mpr (.inl ?_); ((repeat refine List.Mem.tail _ ?_); first | exact hp)) | (refine List.mem_append.mpr (.inr ?_); ((repeat refine List.Mem.tail _ ?_); first | exact hp)))))) | kcj_all)) ?_; first | (simp [*]; done) | (rw [Bool.eq_iff_iff]; (try simp only []); (try ((repeat' split) <;> (try simp only [decide_eq_true_eq, beq_iff_eq, beq_eq_false_iff_ne, bne_iff_ne, ne_eq, Bool.and_eq_true, Bool.or_eq_true, Bool.not_eq_true', Bool.not_eq_false', Bool.and_eq_false_iff, Bool.or_eq_false_iff, decide_eq_false_iff_not, Bool.not_eq_true, Bool.false_eq_true, Bool.true_eq_false, gt_iff_lt, ge_iff_le, true_iff, iff_true, false_iff, iff_false, eq_self_iff_true]) <;> first | done | omega))))
    )
  have q_widthsfor := pin X0 T0 (C := fun K V TL w => C_widthsfor K V TL w) (by
    as_aux_lemma =>
      revert q_fits8
      (repeat (rename _ => zz; clear zz))
      (rename World => w)
      intro q_fits8
      with_unfolding_all intro news v b i sc wo sz sg nm hm hb16
      have e1 : Builtin.bitAnd b 7 = code b := by rw [bit7 hb16.1 hb16.2]; unfold code; rw [if_neg (by omega), if_neg (by omega)]
      obtain @⟨x, dx, v1, v2, _, _, _, _, _, _, _, k0, k1, k2, k3, k4, k5, k6, k7, t0, t3, t4, t5, t6, t7, n, hx, hd1, hb, hi⟩ := hm
      cases hb
      · omega
      · omega
      · skip
        try (unfold Clls; k_fill; fail)
        k_dflt (refine' clls_enter ?k1j ?k2j ?k3j ?k4j ?k5j ?k6j ?k7j ?k8j ?_; (case k1j => k_is); (case k2j => k_is); (case k3j => exact fun _ => BindsTo.of_eq rfl); (case k4j => exact locs rfl); (case k5j => decide); (case k6j => exact rfl); (case k7j => exact rfl); (case k8j => exact rfl))
        intro mean mg mb dp un gd outer A₀ base h₀ L gs dw os h₁ tk E m B F X N T hG hd hu hE
        (try dsimp only)
        (try k_fold)
        repeat' (first | (k_unfold; (try dsimp only)) | walk1 | (dsimp only; walk1) | (leave1; (try dsimp only)) | fail "no step")
        all_goals (refine fin_l (by assumption) (by assumption) (by k_mem) (by (first | (intro p hp; (repeat refine List.Mem.tail _ ?_); exact hp) | (intro p hp; ((repeat refine List.Mem.tail _ ?_); first | exact hp | (refine List.mem_append.mpr (.inl ?_); ((repeat refine List.Mem.tail _ ?_); first | exact hp | (refine List.mem_append.mpr (.inl ?_); ((repeat refine List.Mem.tail _ ?_); first | exact hp)) | (refine List.mem_append.mpr (.inr ?_); ((repeat refine List.Mem.tail _ ?_); first | exact hp)))) | (refine List.mem_append.mpr (.inr ?_); ((repeat refine List.Mem.tail _ ?_); first | exact hp | (refine List.mem_append.mpr (.inl ?_); ((repeat refine List.Mem.tail _ ?_); first | exact hp)) | (refine List.mem_append.mpr (.inr ?_); ((repeat refine List.Mem.tail _ ?_); first | exact hp)))))) | kcj_all)) (by (first | assumption | exact lt_from (by assumption) (by intro q hq; ((repeat refine List.Mem.tail _ ?_); first | exact hq | (refine List.mem_append.mpr (.inl ?_); ((repeat refine List.Mem.tail _ ?_); first | exact hq | (refine List.mem_append.mpr (.inl ?_); ((repeat refine List.Mem.tail _ ?_); first | exact hq)) | (refine List.mem_append.mpr (.inr ?_); ((repeat refine List.Mem.tail _ ?_); first | exact hq)))) | (refine List.mem_append.mpr (.inr ?_); ((repeat refine List.Mem.tail _ ?_); first | exact hq | (refine List.mem_append.mpr (.inl ?_); ((repeat refine List.Mem.tail _ ?_); first | exact hq)) | (refine List.mem_append.mpr (.inr ?_); ((repeat refine List.Mem.tail _ ?_); first | exact hq)))))) | exact allLt_of (by assumption) | exact (by assumption : _ ∧ AllLt _ _).2 | exact (by assumption : _ ∧ _ ∧ AllLt _ _).2.2 | exact (by assumption : _ ∧ _ ∧ _ ∧ AllLt _ _).2.2.2 | exact (by assumption : _ ∧ _ ∧ _ ∧ _ ∧ AllLt _ _).2.2.2.2)) ?_; (rename ((nm != Str.ofString "") = _) => q0); rw [q0]; dsimp only [widths]; (try (rename ((decide _ && decide _) = _) => q1; simp only [Bool.and_eq_true, Bool.and_eq_false_iff, decide_eq_true_eq, decide_eq_false_iff_not] at q1)); (repeat' split) <;> first | (exfalso; omega) | with_unfolding_all exact IntsAre.cons _ _ .nil | with_unfolding_all exact IntsAre.cons _ _ (IntsAre.cons _ _ .nil) | with_unfolding_all exact IntsAre.cons _ _ (IntsAre.cons _ _ (IntsAre.cons _ _ .nil)))
    )
  have q_modof := pin X0 T0 (C := fun K V TL w => C_modof K V TL w) (by
    as_aux_lemma =>
      (repeat (rename _ => zz; clear zz))
      (rename World => w)
      with_unfolding_all intro news z t1
      try (unfold Clls; k_fill; fail)
      k_dflt (refine' clls_enter ?k1j ?k2j ?k3j ?k4j ?k5j ?k6j ?k7j ?k8j ?_; (case k1j => k_is); (case k2j => k_is); (case k3j => exact fun _ => BindsTo.of_eq rfl); (case k4j => exact locs rfl); (case k5j => decide); (case k6j => exact rfl); (case k7j => exact rfl); (case k8j => exact rfl))
      intro mean mg mb dp un gd outer A₀ base h₀ L gs dw os h₁ tk E m B F X N T hG hd hu hE
      (try dsimp only)
      (try k_fold)
      repeat' (first | (k_unfold; (try dsimp only)) | walk1 | (dsimp only; walk1) | (leave1; (try dsimp only)) | fail "no step")
      all_goals (refine fin_i (by assumption) (by assumption) (by (first | (intro p hp; (repeat refine List.Mem.tail _ ?_); exact hp) | (intro p hp; ((repeat refine List.Mem.tail _ ?_); first | exact hp | (refine List.mem_append.mpr (.inl ?_); ((repeat refine List.Mem.tail _ ?_); first | exact hp | (refine List.mem_append.mpr (.inl ?_); ((repeat refine List.Mem.tail _ ?_); first | exact hp)) | (refine List.mem_append.mpr (.inr ?_); ((repeat refine List.Mem.tail _ ?_); first | exact hp)))) | (refine List.mem_append.mpr (.inr ?_); ((repeat refine List.Mem.tail _ ?_); first | exact hp | (refine List.mem_append.mpr (.inl ?_); ((repeat refine List.Mem.tail _ ?_); first | exact hp)) | (refine List.mem_append.mpr (.inr ?_); ((repeat refine List.Mem.tail _ ?_); first | exact hp)))))) | kcj_all)) ?_; first | rfl | (simp [modOf, *]; done) | ((try simp only [modOf]); (try ((repeat' split) <;> first | rfl | omega))))
    )
  have q_mkshape := pin X0 T0 (C := fun K V TL w => C_mkshape K V TL w) (by
    as_aux_lemma =>
      (repeat (rename _ => zz; clear zz))
      (rename World => w)
      with_unfolding_all intro news q1 q2 q3 q4 q5 q6 s1 s2 s3 s4 s5 s6
      unfold Clls
      k_fill
      intro mean mg mb dp un gd cn cs a ccd cl outer A₀ base h₀ L m s Q E B F X N T hG hk hd hu hret
      k_dflt (refine' call_cls ?k1j ?k2j ?k3j ?k4j ?k5j ?k6j ?_; (case k1j => k_asm); (case k2j => k_asm); (case k3j => k_asm); (case k4j => k_is); (case k5j => k_is); (case k6j => k_is); k_whole; intro x1 d1 h1 F1 N1 l1 l2; (try k_lt l1); (try k_lt2 l2); (try k_sweep))
      k_dflt ktr_enter
      repeat' (first | (k_unfold; (try dsimp only)) | walk1 | (dsimp only; walk1) | (leave1; (try dsimp only)) | fail "no step")
      all_goals exact back_add [(x1, _), (d1, _)] hret ⟨x1, d1, _, _, _, _, _, _, _, _, _, _, _, _, _, rfl, rfl⟩ (by assumption) (by assumption) (sub_two (by (repeat (first | exact List.Mem.head _ | refine List.Mem.tail _ ?_))) (by (repeat (first | exact List.Mem.head _ | refine List.Mem.tail _ ?_)))) (by (first | (intro p hp; (repeat refine List.Mem.tail _ ?_); exact hp) | (intro p hp; ((repeat refine List.Mem.tail _ ?_); first | exact hp | (refine List.mem_append.mpr (.inl ?_); ((repeat refine List.Mem.tail _ ?_); first | exact hp | (refine List.mem_append.mpr (.inl ?_); ((repeat refine List.Mem.tail _ ?_); first | exact hp)) | (refine List.mem_append.mpr (.inr ?_); ((repeat refine List.Mem.tail _ ?_); first | exact hp)))) | (refine List.mem_append.mpr (.inr ?_); ((repeat refine List.Mem.tail _ ?_); first | exact hp | (refine List.mem_append.mpr (.inl ?_); ((repeat refine List.Mem.tail _ ?_); first | exact hp)) | (refine List.mem_append.mpr (.inr ?_); ((repeat refine List.Mem.tail _ ?_); first | exact hp)))))) | kcj_all)) (lt_two (by (first | assumption | exact lt_from (by assumption) (by intro q hq; ((repeat refine List.Mem.tail _ ?_); first | exact hq | (refine List.mem_append.mpr (.inl ?_); ((repeat refine List.Mem.tail _ ?_); first | exact hq | (refine List.mem_append.mpr (.inl ?_); ((repeat refine List.Mem.tail _ ?_); first | exact hq)) | (refine List.mem_append.mpr (.inr ?_); ((repeat refine List.Mem.tail _ ?_); first | exact hq)))) | (refine List.mem_append.mpr (.inr ?_); ((repeat refine List.Mem.tail _ ?_); first | exact hq | (refine List.mem_append.mpr (.inl ?_); ((repeat refine List.Mem.tail _ ?_); first | exact hq)) | (refine List.mem_append.mpr (.inr ?_); ((repeat refine List.Mem.tail _ ?_); first | exact hq)))))) | exact allLt_of (by assumption) | exact (by assumption : _ ∧ AllLt _ _).2 | exact (by assumption : _ ∧ _ ∧ AllLt _ _).2.2 | exact (by assumption : _ ∧ _ ∧ _ ∧ AllLt _ _).2.2.2 | exact (by assumption : _ ∧ _ ∧ _ ∧ _ ∧ AllLt _ _).2.2.2.2)) (by first | assumption | omega))
    )
  have q_based := pin X0 T0 (C := fun K V TL w => C_based K V TL w) (by
    as_aux_lemma =>
      revert q_extbit q_needs q_sibfor q_widthsfor q_modof q_mkshape
      (repeat (rename _ => zz; clear zz))
      (rename World => w)
      intro q_extbit q_needs q_sibfor q_widthsfor q_modof q_mkshape
      with_unfolding_all intro news v b i sc wo sz sg nm hm hb16 hi16 hsc
      have ol : OwnLoops := ⟨trivial⟩
      have e1 : Builtin.bitAnd b 7 = code b := by rw [bit7 hb16.1 hb16.2]; unfold code; rw [if_neg (by omega), if_neg (by omega)]
      have h16 : b ≠ 16 := by omega
      have hm2 := hm
      obtain @⟨x, dx, v1, v2, _, _, _, _, _, _, _, k0, k1, k2, k3, k4, k5, k6, k7, t0, t3, t4, t5, t6, t7, n, hx, hd1, hb, hi⟩ := hm
      have hb2 := hb
      obtain ⟨r, dr, j1, j2, j3, j4, s1, s2, s3, s4, n2, e0, hr, hdr⟩ := hb.gprOf hb16.1 hb16.2
      subst e0
      try (unfold Clls; k_fill; fail)
      k_dflt (refine' clls_enter ?k1j ?k2j ?k3j ?k4j ?k5j ?k6j ?k7j ?k8j ?_; (case k1j => k_is); (case k2j => k_is); (case k3j => exact fun _ => BindsTo.of_eq rfl); (case k4j => exact locs rfl); (case k5j => decide); (case k6j => exact rfl); (case k7j => exact rfl); (case k8j => exact rfl))
      intro mean mg mb dp un gd outer A₀ base h₀ L gs dw os h₁ tk E m B F X N T hG hd hu hE
      (try dsimp only)
      (try k_fold)
      repeat' (first | (k_unfold; (try dsimp only)) | walk1 | (dsimp only; walk1) | (leave1; (try dsimp only)) | fail "no step")
      unfold Stop
      (rename IntsAre _ _ => i9)
      (rename News _ _ _ _ => Nn)
      (rename Fr _ _ _ _ => Fn)
      refine' loop_list (keep := (_, W.listOf (List.toArray _) _) :: news) (fa := _) (us₀ := #[]) (n₀ := 0) [] (fun k us tl => ShAll w.params tl us (((widths b wo (nm != Str.ofString "")).take k).flatMap (shOne b i sc)) ∧ us.length ≤ 2 * k) rfl Fn Nn ?hfj ?hkj ?hoj (.head _) ?hsj ?turnj ?donej
      case hfj => k_mem
      case hkj => exact List.forall_mem_cons.mpr ⟨by k_mem, by kcj_all⟩
      case hoj => exact List.forall_mem_cons.mpr ⟨by k_ne, fun p hp => Nat.ne_of_lt (ktn_ltOf (by (first | assumption | exact lt_from (by assumption) (by intro q hq; ((repeat refine List.Mem.tail _ ?_); first | exact hq | (refine List.mem_append.mpr (.inl ?_); ((repeat refine List.Mem.tail _ ?_); first | exact hq | (refine List.mem_append.mpr (.inl ?_); ((repeat refine List.Mem.tail _ ?_); first | exact hq)) | (refine List.mem_append.mpr (.inr ?_); ((repeat refine List.Mem.tail _ ?_); first | exact hq)))) | (refine List.mem_append.mpr (.inr ?_); ((repeat refine List.Mem.tail _ ?_); first | exact hq | (refine List.mem_append.mpr (.inl ?_); ((repeat refine List.Mem.tail _ ?_); first | exact hq)) | (refine List.mem_append.mpr (.inr ?_); ((repeat refine List.Mem.tail _ ?_); first | exact hq)))))) | exact allLt_of (by assumption) | exact (by assumption : _ ∧ AllLt _ _).2 | exact (by assumption : _ ∧ _ ∧ AllLt _ _).2.2 | exact (by assumption : _ ∧ _ ∧ _ ∧ AllLt _ _).2.2.2 | exact (by assumption : _ ∧ _ ∧ _ ∧ _ ∧ AllLt _ _).2.2.2.2)) p hp)⟩
      case hsj => exact ⟨.nil, Nat.le_refl _⟩
      case donej =>
        intro us nn tl u h tk hI hord Fd Nd
        (try k_fold)
        k_steps
        all_goals exact fin_grown ⟨_, us, nn, tl, rfl, rfl, by have h := hI.1; rw [i9.length, List.take_length] at h; exact h⟩ (by assumption) (by assumption) (by exact fun p hp => .tail _ hp) (by exact ktn_ltOf (by (first | assumption | exact lt_from (by assumption) (by intro q hq; ((repeat refine List.Mem.tail _ ?_); first | exact hq | (refine List.mem_append.mpr (.inl ?_); ((repeat refine List.Mem.tail _ ?_); first | exact hq | (refine List.mem_append.mpr (.inl ?_); ((repeat refine List.Mem.tail _ ?_); first | exact hq)) | (refine List.mem_append.mpr (.inr ?_); ((repeat refine List.Mem.tail _ ?_); first | exact hq)))) | (refine List.mem_append.mpr (.inr ?_); ((repeat refine List.Mem.tail _ ?_); first | exact hq | (refine List.mem_append.mpr (.inl ?_); ((repeat refine List.Mem.tail _ ?_); first | exact hq)) | (refine List.mem_append.mpr (.inr ?_); ((repeat refine List.Mem.tail _ ?_); first | exact hq)))))) | exact allLt_of (by assumption) | exact (by assumption : _ ∧ AllLt _ _).2 | exact (by assumption : _ ∧ _ ∧ AllLt _ _).2.2 | exact (by assumption : _ ∧ _ ∧ _ ∧ AllLt _ _).2.2.2 | exact (by assumption : _ ∧ _ ∧ _ ∧ _ ∧ AllLt _ _).2.2.2.2))) hord
      case turnj =>
        intro k v us nn tl own rest u h tk hv hI hR kR tR oR Ft Nt
        have hz := size_le hI.2 hv (Nat.le_trans (Nat.le_of_eq i9.length) (widths_len _ _ _))
        obtain ⟨n, t, e, hn⟩ := IntsAre.at i9 k v hv
        subst e
        have hm3 := MemIn.mono hm2 (fun p hp => kR p (.tail _ hp))
        have hx2 := kR _ (.tail _ hx)
        have hd2 := kR _ (.tail _ hd1)
        have hr2 := kR _ (.tail _ hr)
        have hdr2 := kR _ (.tail _ hdr)
        have off := hR.off
        (try k_fold)
        k_steps
        all_goals (try dsimp only [PostM])
        · refine' post1 hI hn ?Fj ?Nj ?hfj ?h1j ?h2j ?hrj ?a1j ?b1j ?f1j ?l1j ?hmj ?hsj
          case Fj => assumption
          case Nj => assumption
          case hfj => (repeat (first | exact List.Mem.head _ | refine List.Mem.tail _ ?_))
          case h1j => (repeat (first | exact List.Mem.head _ | refine List.Mem.tail _ ?_))
          case h2j => (repeat (first | exact List.Mem.head _ | refine List.Mem.tail _ ?_))
          case hrj => (first | (intro p hp; (repeat refine List.Mem.tail _ ?_); exact hp) | (intro p hp; ((repeat refine List.Mem.tail _ ?_); first | exact hp | (refine List.mem_append.mpr (.inl ?_); ((repeat refine List.Mem.tail _ ?_); first | exact hp | (refine List.mem_append.mpr (.inl ?_); ((repeat refine List.Mem.tail _ ?_); first | exact hp)) | (refine List.mem_append.mpr (.inr ?_); ((repeat refine List.Mem.tail _ ?_); first | exact hp)))) | (refine List.mem_append.mpr (.inr ?_); ((repeat refine List.Mem.tail _ ?_); first | exact hp | (refine List.mem_append.mpr (.inl ?_); ((repeat refine List.Mem.tail _ ?_); first | exact hp)) | (refine List.mem_append.mpr (.inr ?_); ((repeat refine List.Mem.tail _ ?_); first | exact hp)))))) | kcj_all)
          case a1j => (first | assumption | exact lt_from (by assumption) (by intro q hq; ((repeat refine List.Mem.tail _ ?_); first | exact hq | (refine List.mem_append.mpr (.inl ?_); ((repeat refine List.Mem.tail _ ?_); first | exact hq | (refine List.mem_append.mpr (.inl ?_); ((repeat refine List.Mem.tail _ ?_); first | exact hq)) | (refine List.mem_append.mpr (.inr ?_); ((repeat refine List.Mem.tail _ ?_); first | exact hq)))) | (refine List.mem_append.mpr (.inr ?_); ((repeat refine List.Mem.tail _ ?_); first | exact hq | (refine List.mem_append.mpr (.inl ?_); ((repeat refine List.Mem.tail _ ?_); first | exact hq)) | (refine List.mem_append.mpr (.inr ?_); ((repeat refine List.Mem.tail _ ?_); first | exact hq)))))) | exact allLt_of (by assumption) | exact (by assumption : _ ∧ AllLt _ _).2 | exact (by assumption : _ ∧ _ ∧ AllLt _ _).2.2 | exact (by assumption : _ ∧ _ ∧ _ ∧ AllLt _ _).2.2.2 | exact (by assumption : _ ∧ _ ∧ _ ∧ _ ∧ AllLt _ _).2.2.2.2)
          case b1j => (first | assumption | exact lt_from (by assumption) (by intro q hq; ((repeat refine List.Mem.tail _ ?_); first | exact hq | (refine List.mem_append.mpr (.inl ?_); ((repeat refine List.Mem.tail _ ?_); first | exact hq | (refine List.mem_append.mpr (.inl ?_); ((repeat refine List.Mem.tail _ ?_); first | exact hq)) | (refine List.mem_append.mpr (.inr ?_); ((repeat refine List.Mem.tail _ ?_); first | exact hq)))) | (refine List.mem_append.mpr (.inr ?_); ((repeat refine List.Mem.tail _ ?_); first | exact hq | (refine List.mem_append.mpr (.inl ?_); ((repeat refine List.Mem.tail _ ?_); first | exact hq)) | (refine List.mem_append.mpr (.inr ?_); ((repeat refine List.Mem.tail _ ?_); first | exact hq)))))) | exact allLt_of (by assumption) | exact (by assumption : _ ∧ AllLt _ _).2 | exact (by assumption : _ ∧ _ ∧ AllLt _ _).2.2 | exact (by assumption : _ ∧ _ ∧ _ ∧ AllLt _ _).2.2.2 | exact (by assumption : _ ∧ _ ∧ _ ∧ _ ∧ AllLt _ _).2.2.2.2)
          case f1j => omega
          case l1j => omega
          case hmj => (intro z h1 h2; exact tm1 h1 (tm2 h2 rfl))
          case hsj => (unfold shOne; rw [if_pos (by assumption)]; rfl)
        · refine' post2 hI hn ?Fj ?Nj ?hfj ?h1j ?h2j ?h3j ?h4j ?hrj ?a1j ?b1j ?a2j ?b2j ?f1j ?l1j ?l12j ?l2j ?hmj ?hsj
          case Fj => assumption
          case Nj => assumption
          case hfj => (repeat (first | exact List.Mem.head _ | refine List.Mem.tail _ ?_))
          case h1j => (repeat (first | exact List.Mem.head _ | refine List.Mem.tail _ ?_))
          case h2j => (repeat (first | exact List.Mem.head _ | refine List.Mem.tail _ ?_))
          case h3j => (repeat (first | exact List.Mem.head _ | refine List.Mem.tail _ ?_))
          case h4j => (repeat (first | exact List.Mem.head _ | refine List.Mem.tail _ ?_))
          case hrj => (first | (intro p hp; (repeat refine List.Mem.tail _ ?_); exact hp) | (intro p hp; ((repeat refine List.Mem.tail _ ?_); first | exact hp | (refine List.mem_append.mpr (.inl ?_); ((repeat refine List.Mem.tail _ ?_); first | exact hp | (refine List.mem_append.mpr (.inl ?_); ((repeat refine List.Mem.tail _ ?_); first | exact hp)) | (refine List.mem_append.mpr (.inr ?_); ((repeat refine List.Mem.tail _ ?_); first | exact hp)))) | (refine List.mem_append.mpr (.inr ?_); ((repeat refine List.Mem.tail _ ?_); first | exact hp | (refine List.mem_append.mpr (.inl ?_); ((repeat refine List.Mem.tail _ ?_); first | exact hp)) | (refine List.mem_append.mpr (.inr ?_); ((repeat refine List.Mem.tail _ ?_); first | exact hp)))))) | kcj_all)
          case a1j => (first | assumption | exact lt_from (by assumption) (by intro q hq; ((repeat refine List.Mem.tail _ ?_); first | exact hq | (refine List.mem_append.mpr (.inl ?_); ((repeat refine List.Mem.tail _ ?_); first | exact hq | (refine List.mem_append.mpr (.inl ?_); ((repeat refine List.Mem.tail _ ?_); first | exact hq)) | (refine List.mem_append.mpr (.inr ?_); ((repeat refine List.Mem.tail _ ?_); first | exact hq)))) | (refine List.mem_append.mpr (.inr ?_); ((repeat refine List.Mem.tail _ ?_); first | exact hq | (refine List.mem_append.mpr (.inl ?_); ((repeat refine List.Mem.tail _ ?_); first | exact hq)) | (refine List.mem_append.mpr (.inr ?_); ((repeat refine List.Mem.tail _ ?_); first | exact hq)))))) | exact allLt_of (by assumption) | exact (by assumption : _ ∧ AllLt _ _).2 | exact (by assumption : _ ∧ _ ∧ AllLt _ _).2.2 | exact (by assumption : _ ∧ _ ∧ _ ∧ AllLt _ _).2.2.2 | exact (by assumption : _ ∧ _ ∧ _ ∧ _ ∧ AllLt _ _).2.2.2.2)
          case b1j => (first | assumption | exact lt_from (by assumption) (by intro q hq; ((repeat refine List.Mem.tail _ ?_); first | exact hq | (refine List.mem_append.mpr (.inl ?_); ((repeat refine List.Mem.tail _ ?_); first | exact hq | (refine List.mem_append.mpr (.inl ?_); ((repeat refine List.Mem.tail _ ?_); first | exact hq)) | (refine List.mem_append.mpr (.inr ?_); ((repeat refine List.Mem.tail _ ?_); first | exact hq)))) | (refine List.mem_append.mpr (.inr ?_); ((repeat refine List.Mem.tail _ ?_); first | exact hq | (refine List.mem_append.mpr (.inl ?_); ((repeat refine List.Mem.tail _ ?_); first | exact hq)) | (refine List.mem_append.mpr (.inr ?_); ((repeat refine List.Mem.tail _ ?_); first | exact hq)))))) | exact allLt_of (by assumption) | exact (by assumption : _ ∧ AllLt _ _).2 | exact (by assumption : _ ∧ _ ∧ AllLt _ _).2.2 | exact (by assumption : _ ∧ _ ∧ _ ∧ AllLt _ _).2.2.2 | exact (by assumption : _ ∧ _ ∧ _ ∧ _ ∧ AllLt _ _).2.2.2.2)
          case f1j => omega
          case l1j => omega
          case a2j => (first | assumption | exact lt_from (by assumption) (by intro q hq; ((repeat refine List.Mem.tail _ ?_); first | exact hq | (refine List.mem_append.mpr (.inl ?_); ((repeat refine List.Mem.tail _ ?_); first | exact hq | (refine List.mem_append.mpr (.inl ?_); ((repeat refine List.Mem.tail _ ?_); first | exact hq)) | (refine List.mem_append.mpr (.inr ?_); ((repeat refine List.Mem.tail _ ?_); first | exact hq)))) | (refine List.mem_append.mpr (.inr ?_); ((repeat refine List.Mem.tail _ ?_); first | exact hq | (refine List.mem_append.mpr (.inl ?_); ((repeat refine List.Mem.tail _ ?_); first | exact hq)) | (refine List.mem_append.mpr (.inr ?_); ((repeat refine List.Mem.tail _ ?_); first | exact hq)))))) | exact allLt_of (by assumption) | exact (by assumption : _ ∧ AllLt _ _).2 | exact (by assumption : _ ∧ _ ∧ AllLt _ _).2.2 | exact (by assumption : _ ∧ _ ∧ _ ∧ AllLt _ _).2.2.2 | exact (by assumption : _ ∧ _ ∧ _ ∧ _ ∧ AllLt _ _).2.2.2.2)
          case b2j => (first | assumption | exact lt_from (by assumption) (by intro q hq; ((repeat refine List.Mem.tail _ ?_); first | exact hq | (refine List.mem_append.mpr (.inl ?_); ((repeat refine List.Mem.tail _ ?_); first | exact hq | (refine List.mem_append.mpr (.inl ?_); ((repeat refine List.Mem.tail _ ?_); first | exact hq)) | (refine List.mem_append.mpr (.inr ?_); ((repeat refine List.Mem.tail _ ?_); first | exact hq)))) | (refine List.mem_append.mpr (.inr ?_); ((repeat refine List.Mem.tail _ ?_); first | exact hq | (refine List.mem_append.mpr (.inl ?_); ((repeat refine List.Mem.tail _ ?_); first | exact hq)) | (refine List.mem_append.mpr (.inr ?_); ((repeat refine List.Mem.tail _ ?_); first | exact hq)))))) | exact allLt_of (by assumption) | exact (by assumption : _ ∧ AllLt _ _).2 | exact (by assumption : _ ∧ _ ∧ AllLt _ _).2.2 | exact (by assumption : _ ∧ _ ∧ _ ∧ AllLt _ _).2.2.2 | exact (by assumption : _ ∧ _ ∧ _ ∧ _ ∧ AllLt _ _).2.2.2.2)
          case l12j => omega
          case l2j => omega
          case hmj => (intro z h1 h2; exact tm1 h1 (tm2 h2 rfl))
          case hsj => (unfold shOne; rw [if_neg (by rw [show needsSib b i = false by assumption]; decide), e1]; rfl)
    )
  have q_cell := pin X0 T0 (C := fun K V TL w => C_cell K V TL w) (by
    as_aux_lemma =>
      (repeat (rename _ => zz; clear zz))
      (rename World => w)
      with_unfolding_all intro news l vs ns p t hi hn hp
      try (unfold Clls; k_fill; fail)
      k_dflt (refine' clls_enter ?k1j ?k2j ?k3j ?k4j ?k5j ?k6j ?k7j ?k8j ?_; (case k1j => k_is); (case k2j => k_is); (case k3j => exact fun _ => BindsTo.of_eq rfl); (case k4j => exact locs rfl); (case k5j => decide); (case k6j => exact rfl); (case k7j => exact rfl); (case k8j => exact rfl))
      intro mean mg mb dp un gd outer A₀ base h₀ L gs dw os h₁ tk E m B F X N T hG hd hu hE
      have hL := stays_list (Below.stays B) hG
      (try dsimp only)
      (try k_fold)
      repeat' (first | (k_unfold; (try dsimp only)) | walk1 | (dsimp only; walk1) | (leave1; (try dsimp only)) | fail "no step")
      all_goals exact fin_ce (by assumption) (by assumption) (by (first | (intro p hp; (repeat refine List.Mem.tail _ ?_); exact hp) | (intro p hp; ((repeat refine List.Mem.tail _ ?_); first | exact hp | (refine List.mem_append.mpr (.inl ?_); ((repeat refine List.Mem.tail _ ?_); first | exact hp | (refine List.mem_append.mpr (.inl ?_); ((repeat refine List.Mem.tail _ ?_); first | exact hp)) | (refine List.mem_append.mpr (.inr ?_); ((repeat refine List.Mem.tail _ ?_); first | exact hp)))) | (refine List.mem_append.mpr (.inr ?_); ((repeat refine List.Mem.tail _ ?_); first | exact hp | (refine List.mem_append.mpr (.inl ?_); ((repeat refine List.Mem.tail _ ?_); first | exact hp)) | (refine List.mem_append.mpr (.inr ?_); ((repeat refine List.Mem.tail _ ?_); first | exact hp)))))) | kcj_all)) (Int.fmod_nonneg_of_pos _ (by decide))
    )
  have q_place := pin X0 T0 (C := fun K V TL w => C_place K V TL w) (by
    as_aux_lemma =>
      revert q_cell
      (repeat (rename _ => zz; clear zz))
      (rename World => w)
      intro q_cell
      with_unfolding_all intro news l vs ns hi hn
      try (unfold Clls; k_fill; fail)
      k_dflt (refine' clls_enter ?k1j ?k2j ?k3j ?k4j ?k5j ?k6j ?k7j ?k8j ?_; (case k1j => k_is); (case k2j => k_is); (case k3j => exact fun _ => BindsTo.of_eq rfl); (case k4j => exact locs rfl); (case k5j => decide); (case k6j => exact rfl); (case k7j => exact rfl); (case k8j => exact rfl))
      intro mean mg mb dp un gd outer A₀ base h₀ L gs dw os h₁ tk E m B F X N T hG hd hu hE
      (try dsimp only)
      (try k_fold)
      repeat' (first | (k_unfold; (try dsimp only)) | walk1 | (dsimp only; walk1) | (leave1; (try dsimp only)) | fail "no step")
      all_goals (refine' fin_add [(_, tup [.int _ _, .int _ _, .int _ _] _)] ⟨_, _, _, _, _, _, _, _, rfl, rfl, ?pp9j⟩ (by assumption) (by assumption) ?mm9j ?ss9j ?ll9j; (case mm9j => (intro p hp; rw [List.mem_singleton.mp hp]; (repeat (first | exact List.Mem.head _ | refine List.Mem.tail _ ?_)))); (case ss9j => (first | (intro p hp; (repeat refine List.Mem.tail _ ?_); exact hp) | (intro p hp; ((repeat refine List.Mem.tail _ ?_); first | exact hp | (refine List.mem_append.mpr (.inl ?_); ((repeat refine List.Mem.tail _ ?_); first | exact hp | (refine List.mem_append.mpr (.inl ?_); ((repeat refine List.Mem.tail _ ?_); first | exact hp)) | (refine List.mem_append.mpr (.inr ?_); ((repeat refine List.Mem.tail _ ?_); first | exact hp)))) | (refine List.mem_append.mpr (.inr ?_); ((repeat refine List.Mem.tail _ ?_); first | exact hp | (refine List.mem_append.mpr (.inl ?_); ((repeat refine List.Mem.tail _ ?_); first | exact hp)) | (refine List.mem_append.mpr (.inr ?_); ((repeat refine List.Mem.tail _ ?_); first | exact hp)))))) | kcj_all)); (case ll9j => exact lt_one (by (first | assumption | exact lt_from (by assumption) (by intro q hq; ((repeat refine List.Mem.tail _ ?_); first | exact hq | (refine List.mem_append.mpr (.inl ?_); ((repeat refine List.Mem.tail _ ?_); first | exact hq | (refine List.mem_append.mpr (.inl ?_); ((repeat refine List.Mem.tail _ ?_); first | exact hq)) | (refine List.mem_append.mpr (.inr ?_); ((repeat refine List.Mem.tail _ ?_); first | exact hq)))) | (refine List.mem_append.mpr (.inr ?_); ((repeat refine List.Mem.tail _ ?_); first | exact hq | (refine List.mem_append.mpr (.inl ?_); ((repeat refine List.Mem.tail _ ?_); first | exact hq)) | (refine List.mem_append.mpr (.inr ?_); ((repeat refine List.Mem.tail _ ?_); first | exact hq)))))) | exact allLt_of (by assumption) | exact (by assumption : _ ∧ AllLt _ _).2 | exact (by assumption : _ ∧ _ ∧ AllLt _ _).2.2 | exact (by assumption : _ ∧ _ ∧ _ ∧ AllLt _ _).2.2.2 | exact (by assumption : _ ∧ _ ∧ _ ∧ _ ∧ AllLt _ _).2.2.2.2))); (case pp9j => first | exact pl_none (by omega) | exact pl_none18 (by assumption) | exact pl_full (by omega) (by assumption) | exact pl_full18 (by assumption) (by assumption) (by assumption)))
    )
  have q_width := pin X0 T0 (C := fun K V TL w => C_width K V TL w) (by
    as_aux_lemma =>
      (repeat (rename _ => zz; clear zz))
      (rename World => w)
      with_unfolding_all intro news mod rm sib t1 t2 t3
      try (unfold Clls; k_fill; fail)
      k_dflt (refine' clls_enter ?k1j ?k2j ?k3j ?k4j ?k5j ?k6j ?k7j ?k8j ?_; (case k1j => k_is); (case k2j => k_is); (case k3j => exact fun _ => BindsTo.of_eq rfl); (case k4j => exact locs rfl); (case k5j => decide); (case k6j => exact rfl); (case k7j => exact rfl); (case k8j => exact rfl))
      intro mean mg mb dp un gd outer A₀ base h₀ L gs dw os h₁ tk E m B F X N T hG hd hu hE
      (try dsimp only)
      (try k_fold)
      repeat' (first | (k_unfold; (try dsimp only)) | walk1 | (dsimp only; walk1) | (leave1; (try dsimp only)) | fail "no step")
      all_goals (refine fin_i (by assumption) (by assumption) (by (first | (intro p hp; (repeat refine List.Mem.tail _ ?_); exact hp) | (intro p hp; ((repeat refine List.Mem.tail _ ?_); first | exact hp | (refine List.mem_append.mpr (.inl ?_); ((repeat refine List.Mem.tail _ ?_); first | exact hp | (refine List.mem_append.mpr (.inl ?_); ((repeat refine List.Mem.tail _ ?_); first | exact hp)) | (refine List.mem_append.mpr (.inr ?_); ((repeat refine List.Mem.tail _ ?_); first | exact hp)))) | (refine List.mem_append.mpr (.inr ?_); ((repeat refine List.Mem.tail _ ?_); first | exact hp | (refine List.mem_append.mpr (.inl ?_); ((repeat refine List.Mem.tail _ ?_); first | exact hp)) | (refine List.mem_append.mpr (.inr ?_); ((repeat refine List.Mem.tail _ ?_); first | exact hp)))))) | kcj_all)) ?_; first | rfl | (simp [width, *]; done) | ((try simp only [width]); (try ((repeat' split) <;> first | rfl | omega))))
    )
  have q_meaning := pin X0 T0 (C := fun K V TL w => C_meaning K V TL w) (by
    as_aux_lemma =>
      (repeat (rename _ => zz; clear zz))
      (rename World => w)
      with_unfolding_all intro news mod rm sib x b t1 t2 t3 t4 t5 hs
      try (unfold Clls; k_fill; fail)
      k_dflt (refine' clls_enter ?k1j ?k2j ?k3j ?k4j ?k5j ?k6j ?k7j ?k8j ?_; (case k1j => k_is); (case k2j => k_is); (case k3j => exact fun _ => BindsTo.of_eq rfl); (case k4j => exact locs rfl); (case k5j => decide); (case k6j => exact rfl); (case k7j => exact rfl); (case k8j => exact rfl))
      intro mean mg mb dp un gd outer A₀ base h₀ L gs dw os h₁ tk E m B F X N T hG hd hu hE
      (try dsimp only)
      (try k_fold)
      repeat' (first | (k_unfold; (try dsimp only)) | walk1 | (dsimp only; walk1) | (leave1; (try dsimp only)) | fail "no step")
      all_goals (refine fin_3 (by assumption) (by assumption) (by k_mem) (by (first | (intro p hp; (repeat refine List.Mem.tail _ ?_); exact hp) | (intro p hp; ((repeat refine List.Mem.tail _ ?_); first | exact hp | (refine List.mem_append.mpr (.inl ?_); ((repeat refine List.Mem.tail _ ?_); first | exact hp | (refine List.mem_append.mpr (.inl ?_); ((repeat refine List.Mem.tail _ ?_); first | exact hp)) | (refine List.mem_append.mpr (.inr ?_); ((repeat refine List.Mem.tail _ ?_); first | exact hp)))) | (refine List.mem_append.mpr (.inr ?_); ((repeat refine List.Mem.tail _ ?_); first | exact hp | (refine List.mem_append.mpr (.inl ?_); ((repeat refine List.Mem.tail _ ?_); first | exact hp)) | (refine List.mem_append.mpr (.inr ?_); ((repeat refine List.Mem.tail _ ?_); first | exact hp)))))) | kcj_all)) (by (first | assumption | exact lt_from (by assumption) (by intro q hq; ((repeat refine List.Mem.tail _ ?_); first | exact hq | (refine List.mem_append.mpr (.inl ?_); ((repeat refine List.Mem.tail _ ?_); first | exact hq | (refine List.mem_append.mpr (.inl ?_); ((repeat refine List.Mem.tail _ ?_); first | exact hq)) | (refine List.mem_append.mpr (.inr ?_); ((repeat refine List.Mem.tail _ ?_); first | exact hq)))) | (refine List.mem_append.mpr (.inr ?_); ((repeat refine List.Mem.tail _ ?_); first | exact hq | (refine List.mem_append.mpr (.inl ?_); ((repeat refine List.Mem.tail _ ?_); first | exact hq)) | (refine List.mem_append.mpr (.inr ?_); ((repeat refine List.Mem.tail _ ?_); first | exact hq)))))) | exact allLt_of (by assumption) | exact (by assumption : _ ∧ AllLt _ _).2 | exact (by assumption : _ ∧ _ ∧ AllLt _ _).2.2 | exact (by assumption : _ ∧ _ ∧ _ ∧ AllLt _ _).2.2.2 | exact (by assumption : _ ∧ _ ∧ _ ∧ _ ∧ AllLt _ _).2.2.2.2)) ?_; first | (simp [meaning, *]; done) | ((try simp only [meaning]); (try ((repeat' split) <;> first | rfl | omega))))
    )
  have q_unpack := pin X0 T0 (C := fun K V TL w => C_unpack K V TL w) (by
    as_aux_lemma =>
      (repeat (rename _ => zz; clear zz))
      (rename World => w)
      with_unfolding_all intro news o t1
      try (unfold Clls; k_fill; fail)
      k_dflt (refine' clls_enter ?k1j ?k2j ?k3j ?k4j ?k5j ?k6j ?k7j ?k8j ?_; (case k1j => k_is); (case k2j => k_is); (case k3j => exact fun _ => BindsTo.of_eq rfl); (case k4j => exact locs rfl); (case k5j => decide); (case k6j => exact rfl); (case k7j => exact rfl); (case k8j => exact rfl))
      intro mean mg mb dp un gd outer A₀ base h₀ L gs dw os h₁ tk E m B F X N T hG hd hu hE
      (try dsimp only)
      (try k_fold)
      repeat' (first | (k_unfold; (try dsimp only)) | walk1 | (dsimp only; walk1) | (leave1; (try dsimp only)) | fail "no step")
      all_goals exact fin_3t (by assumption) (by assumption) (by k_mem) (by (first | (intro p hp; (repeat refine List.Mem.tail _ ?_); exact hp) | (intro p hp; ((repeat refine List.Mem.tail _ ?_); first | exact hp | (refine List.mem_append.mpr (.inl ?_); ((repeat refine List.Mem.tail _ ?_); first | exact hp | (refine List.mem_append.mpr (.inl ?_); ((repeat refine List.Mem.tail _ ?_); first | exact hp)) | (refine List.mem_append.mpr (.inr ?_); ((repeat refine List.Mem.tail _ ?_); first | exact hp)))) | (refine List.mem_append.mpr (.inr ?_); ((repeat refine List.Mem.tail _ ?_); first | exact hp | (refine List.mem_append.mpr (.inl ?_); ((repeat refine List.Mem.tail _ ?_); first | exact hp)) | (refine List.mem_append.mpr (.inr ?_); ((repeat refine List.Mem.tail _ ?_); first | exact hp)))))) | kcj_all)) (by (first | assumption | exact lt_from (by assumption) (by intro q hq; ((repeat refine List.Mem.tail _ ?_); first | exact hq | (refine List.mem_append.mpr (.inl ?_); ((repeat refine List.Mem.tail _ ?_); first | exact hq | (refine List.mem_append.mpr (.inl ?_); ((repeat refine List.Mem.tail _ ?_); first | exact hq)) | (refine List.mem_append.mpr (.inr ?_); ((repeat refine List.Mem.tail _ ?_); first | exact hq)))) | (refine List.mem_append.mpr (.inr ?_); ((repeat refine List.Mem.tail _ ?_); first | exact hq | (refine List.mem_append.mpr (.inl ?_); ((repeat refine List.Mem.tail _ ?_); first | exact hq)) | (refine List.mem_append.mpr (.inr ?_); ((repeat refine List.Mem.tail _ ?_); first | exact hq)))))) | exact allLt_of (by assumption) | exact (by assumption : _ ∧ AllLt _ _).2 | exact (by assumption : _ ∧ _ ∧ AllLt _ _).2.2 | exact (by assumption : _ ∧ _ ∧ _ ∧ AllLt _ _).2.2.2 | exact (by assumption : _ ∧ _ ∧ _ ∧ _ ∧ AllLt _ _).2.2.2.2)) rfl rfl rfl
    )
  have q_mkmem6 := pin X0 T0 (C := fun K V TL w => C_mkmem6 K V TL w) (by
    as_aux_lemma =>
      (repeat (rename _ => zz; clear zz))
      (rename World => w)
      with_unfolding_all intro news v1 v2 b i sc wo sz sg s3 s4 s5 s6 h1 h2
      unfold Clls
      k_fill
      intro mean mg mb dp un gd cn cs a ccd cl outer A₀ base h₀ L m s Q E B F X N T hG hk hd hu hret
      k_dflt (refine' call_cls ?k1j ?k2j ?k3j ?k4j ?k5j ?k6j ?_; (case k1j => k_asm); (case k2j => k_asm); (case k3j => k_asm); (case k4j => k_is); (case k5j => k_is); (case k6j => k_is); k_whole; intro x1 d1 h1 F1 N1 l1 l2; (try k_lt l1); (try k_lt2 l2); (try k_sweep))
      k_dflt (refine' code_def ?k1j ?k2j ?k3j ?k4j ?k5j ?kAj ?kFj ?kKj ?k6j ?k7j ?k8j ?k9j ?kBj ?_ ?c2j ?c3j ?c4j ?c5j; (case kAj => exact rfl); (case kFj => exact rfl); (case kKj => assumption); (case k1j => k_asm); (case k2j => k_asm); (case k3j => k_asm); (case k4j => k_asm); (case k5j => k_asm); (case k6j => k_is); (case k7j => k_is); (case k8j => ktr_room); (case k9j => exact binds_K (by k_in) rfl (by k_is) rfl rfl rfl); (case c5j => decide); (case kBj => exact locs rfl); (case c2j => exact rfl); (case c3j => exact rfl); (case c4j => exact rfl); k_whole; intro g2 L2 h2 FG2 F2 N2 B2 X2 T2; (try dsimp only); (try k_fold))
      repeat' (first | (k_unfold; (try dsimp only)) | walk1 | (dsimp only; walk1) | (leave1; (try dsimp only)) | fail "no step")
      all_goals exact back_add [(x1, _), (d1, _)] hret ⟨x1, d1, _, _, _, _, _, _, _, _, _, _, _, _, _, _, _, rfl, rfl⟩ (by assumption) (by assumption) (sub_two (by (repeat (first | exact List.Mem.head _ | refine List.Mem.tail _ ?_))) (by (repeat (first | exact List.Mem.head _ | refine List.Mem.tail _ ?_)))) (by (first | (intro p hp; (repeat refine List.Mem.tail _ ?_); exact hp) | (intro p hp; ((repeat refine List.Mem.tail _ ?_); first | exact hp | (refine List.mem_append.mpr (.inl ?_); ((repeat refine List.Mem.tail _ ?_); first | exact hp | (refine List.mem_append.mpr (.inl ?_); ((repeat refine List.Mem.tail _ ?_); first | exact hp)) | (refine List.mem_append.mpr (.inr ?_); ((repeat refine List.Mem.tail _ ?_); first | exact hp)))) | (refine List.mem_append.mpr (.inr ?_); ((repeat refine List.Mem.tail _ ?_); first | exact hp | (refine List.mem_append.mpr (.inl ?_); ((repeat refine List.Mem.tail _ ?_); first | exact hp)) | (refine List.mem_append.mpr (.inr ?_); ((repeat refine List.Mem.tail _ ?_); first | exact hp)))))) | kcj_all)) (lt_two (by (first | assumption | exact lt_from (by assumption) (by intro q hq; ((repeat refine List.Mem.tail _ ?_); first | exact hq | (refine List.mem_append.mpr (.inl ?_); ((repeat refine List.Mem.tail _ ?_); first | exact hq | (refine List.mem_append.mpr (.inl ?_); ((repeat refine List.Mem.tail _ ?_); first | exact hq)) | (refine List.mem_append.mpr (.inr ?_); ((repeat refine List.Mem.tail _ ?_); first | exact hq)))) | (refine List.mem_append.mpr (.inr ?_); ((repeat refine List.Mem.tail _ ?_); first | exact hq | (refine List.mem_append.mpr (.inl ?_); ((repeat refine List.Mem.tail _ ?_); first | exact hq)) | (refine List.mem_append.mpr (.inr ?_); ((repeat refine List.Mem.tail _ ?_); first | exact hq)))))) | exact allLt_of (by assumption) | exact (by assumption : _ ∧ AllLt _ _).2 | exact (by assumption : _ ∧ _ ∧ AllLt _ _).2.2 | exact (by assumption : _ ∧ _ ∧ _ ∧ AllLt _ _).2.2.2 | exact (by assumption : _ ∧ _ ∧ _ ∧ _ ∧ AllLt _ _).2.2.2.2)) (by first | assumption | omega))
    )
  have q_memof := pin X0 T0 (C := fun K V TL w => C_memof K V TL w) (by
    as_aux_lemma =>
      revert q_rip q_gpr q_unpack q_mkmem6
      (repeat (rename _ => zz; clear zz))
      (rename World => w)
      intro q_rip q_gpr q_unpack q_mkmem6
      with_unfolding_all intro news mod rm sib wo x b sz sg t1 t2 t3 t4 t5 t6 t7 t8 hmod hrm hx hb hs
      have f1 : 0 ≤ Int.fmod (Int.fdiv sib 8) 8 ∧ Int.fmod (Int.fdiv sib 8) 8 < 8 := fm8
      have f2 : 0 ≤ Int.fmod sib 8 ∧ Int.fmod sib 8 < 8 := fm8
      have f3 : rm = 4 → 0 ≤ Int.fdiv sib 64 ∧ Int.fdiv sib 64 ≤ 3 := fun h => fd64 (hs h).1 (hs h).2
      have os : Own 1 := ⟨trivial⟩
      try (unfold Clls; k_fill; fail)
      k_dflt (refine' clls_enter ?k1j ?k2j ?k3j ?k4j ?k5j ?k6j ?k7j ?k8j ?_; (case k1j => k_is); (case k2j => k_is); (case k3j => exact fun _ => BindsTo.of_eq rfl); (case k4j => exact locs rfl); (case k5j => decide); (case k6j => exact rfl); (case k7j => exact rfl); (case k8j => exact rfl))
      intro mean mg mb dp un gd outer A₀ base h₀ L gs dw os h₁ tk E m B F X N T hG hd hu hE
      (try dsimp only)
      (try k_fold)
      repeat' (first | (k_unfold; (try dsimp only)) | walk1 | (dsimp only; walk1) | (leave1; (try dsimp only)) | fail "no step")
      all_goals (refine' fin_mem _ _ (by assumption) (by assumption) ?h1j ?h2j ?g1j ?g2j ?s1j ?s2j ?hsj ?l1j ?l2j ?o1j ?o2j ?ej; (case h1j => (repeat (first | exact List.Mem.head _ | refine List.Mem.tail _ ?_))); (case h2j => (repeat (first | exact List.Mem.head _ | refine List.Mem.tail _ ?_))); (case g1j => first | exact (RegIn.none : RegIn _ [] _ _) | assumption); (case g2j => first | exact (RegIn.none : RegIn _ [] _ _) | assumption); (case s1j => first | exact no_sub | exact sub_two (by (repeat (first | exact List.Mem.head _ | refine List.Mem.tail _ ?_))) (by (repeat (first | exact List.Mem.head _ | refine List.Mem.tail _ ?_)))); (case s2j => first | exact no_sub | exact sub_two (by (repeat (first | exact List.Mem.head _ | refine List.Mem.tail _ ?_))) (by (repeat (first | exact List.Mem.head _ | refine List.Mem.tail _ ?_)))); (case hsj => (first | (intro p hp; (repeat refine List.Mem.tail _ ?_); exact hp) | (intro p hp; ((repeat refine List.Mem.tail _ ?_); first | exact hp | (refine List.mem_append.mpr (.inl ?_); ((repeat refine List.Mem.tail _ ?_); first | exact hp | (refine List.mem_append.mpr (.inl ?_); ((repeat refine List.Mem.tail _ ?_); first | exact hp)) | (refine List.mem_append.mpr (.inr ?_); ((repeat refine List.Mem.tail _ ?_); first | exact hp)))) | (refine List.mem_append.mpr (.inr ?_); ((repeat refine List.Mem.tail _ ?_); first | exact hp | (refine List.mem_append.mpr (.inl ?_); ((repeat refine List.Mem.tail _ ?_); first | exact hp)) | (refine List.mem_append.mpr (.inr ?_); ((repeat refine List.Mem.tail _ ?_); first | exact hp)))))) | kcj_all)); (case l1j => (first | assumption | exact lt_from (by assumption) (by intro q hq; ((repeat refine List.Mem.tail _ ?_); first | exact hq | (refine List.mem_append.mpr (.inl ?_); ((repeat refine List.Mem.tail _ ?_); first | exact hq | (refine List.mem_append.mpr (.inl ?_); ((repeat refine List.Mem.tail _ ?_); first | exact hq)) | (refine List.mem_append.mpr (.inr ?_); ((repeat refine List.Mem.tail _ ?_); first | exact hq)))) | (refine List.mem_append.mpr (.inr ?_); ((repeat refine List.Mem.tail _ ?_); first | exact hq | (refine List.mem_append.mpr (.inl ?_); ((repeat refine List.Mem.tail _ ?_); first | exact hq)) | (refine List.mem_append.mpr (.inr ?_); ((repeat refine List.Mem.tail _ ?_); first | exact hq)))))) | exact allLt_of (by assumption) | exact (by assumption : _ ∧ AllLt _ _).2 | exact (by assumption : _ ∧ _ ∧ AllLt _ _).2.2 | exact (by assumption : _ ∧ _ ∧ _ ∧ AllLt _ _).2.2.2 | exact (by assumption : _ ∧ _ ∧ _ ∧ _ ∧ AllLt _ _).2.2.2.2)); (case l2j => (first | assumption | exact lt_from (by assumption) (by intro q hq; ((repeat refine List.Mem.tail _ ?_); first | exact hq | (refine List.mem_append.mpr (.inl ?_); ((repeat refine List.Mem.tail _ ?_); first | exact hq | (refine List.mem_append.mpr (.inl ?_); ((repeat refine List.Mem.tail _ ?_); first | exact hq)) | (refine List.mem_append.mpr (.inr ?_); ((repeat refine List.Mem.tail _ ?_); first | exact hq)))) | (refine List.mem_append.mpr (.inr ?_); ((repeat refine List.Mem.tail _ ?_); first | exact hq | (refine List.mem_append.mpr (.inl ?_); ((repeat refine List.Mem.tail _ ?_); first | exact hq)) | (refine List.mem_append.mpr (.inr ?_); ((repeat refine List.Mem.tail _ ?_); first | exact hq)))))) | exact allLt_of (by assumption) | exact (by assumption : _ ∧ AllLt _ _).2 | exact (by assumption : _ ∧ _ ∧ AllLt _ _).2.2 | exact (by assumption : _ ∧ _ ∧ _ ∧ AllLt _ _).2.2.2 | exact (by assumption : _ ∧ _ ∧ _ ∧ _ ∧ AllLt _ _).2.2.2.2)); (case o1j => first | exact no_lt | exact lt_both (by (first | assumption | exact lt_from (by assumption) (by intro q hq; ((repeat refine List.Mem.tail _ ?_); first | exact hq | (refine List.mem_append.mpr (.inl ?_); ((repeat refine List.Mem.tail _ ?_); first | exact hq | (refine List.mem_append.mpr (.inl ?_); ((repeat refine List.Mem.tail _ ?_); first | exact hq)) | (refine List.mem_append.mpr (.inr ?_); ((repeat refine List.Mem.tail _ ?_); first | exact hq)))) | (refine List.mem_append.mpr (.inr ?_); ((repeat refine List.Mem.tail _ ?_); first | exact hq | (refine List.mem_append.mpr (.inl ?_); ((repeat refine List.Mem.tail _ ?_); first | exact hq)) | (refine List.mem_append.mpr (.inr ?_); ((repeat refine List.Mem.tail _ ?_); first | exact hq)))))) | exact allLt_of (by assumption) | exact (by assumption : _ ∧ AllLt _ _).2 | exact (by assumption : _ ∧ _ ∧ AllLt _ _).2.2 | exact (by assumption : _ ∧ _ ∧ _ ∧ AllLt _ _).2.2.2 | exact (by assumption : _ ∧ _ ∧ _ ∧ _ ∧ AllLt _ _).2.2.2.2)) (by (first | assumption | exact lt_from (by assumption) (by intro q hq; ((repeat refine List.Mem.tail _ ?_); first | exact hq | (refine List.mem_append.mpr (.inl ?_); ((repeat refine List.Mem.tail _ ?_); first | exact hq | (refine List.mem_append.mpr (.inl ?_); ((repeat refine List.Mem.tail _ ?_); first | exact hq)) | (refine List.mem_append.mpr (.inr ?_); ((repeat refine List.Mem.tail _ ?_); first | exact hq)))) | (refine List.mem_append.mpr (.inr ?_); ((repeat refine List.Mem.tail _ ?_); first | exact hq | (refine List.mem_append.mpr (.inl ?_); ((repeat refine List.Mem.tail _ ?_); first | exact hq)) | (refine List.mem_append.mpr (.inr ?_); ((repeat refine List.Mem.tail _ ?_); first | exact hq)))))) | exact allLt_of (by assumption) | exact (by assumption : _ ∧ AllLt _ _).2 | exact (by assumption : _ ∧ _ ∧ AllLt _ _).2.2 | exact (by assumption : _ ∧ _ ∧ _ ∧ AllLt _ _).2.2.2 | exact (by assumption : _ ∧ _ ∧ _ ∧ _ ∧ AllLt _ _).2.2.2.2))); (case o2j => first | exact no_lt | exact lt_both (by (first | assumption | exact lt_from (by assumption) (by intro q hq; ((repeat refine List.Mem.tail _ ?_); first | exact hq | (refine List.mem_append.mpr (.inl ?_); ((repeat refine List.Mem.tail _ ?_); first | exact hq | (refine List.mem_append.mpr (.inl ?_); ((repeat refine List.Mem.tail _ ?_); first | exact hq)) | (refine List.mem_append.mpr (.inr ?_); ((repeat refine List.Mem.tail _ ?_); first | exact hq)))) | (refine List.mem_append.mpr (.inr ?_); ((repeat refine List.Mem.tail _ ?_); first | exact hq | (refine List.mem_append.mpr (.inl ?_); ((repeat refine List.Mem.tail _ ?_); first | exact hq)) | (refine List.mem_append.mpr (.inr ?_); ((repeat refine List.Mem.tail _ ?_); first | exact hq)))))) | exact allLt_of (by assumption) | exact (by assumption : _ ∧ AllLt _ _).2 | exact (by assumption : _ ∧ _ ∧ AllLt _ _).2.2 | exact (by assumption : _ ∧ _ ∧ _ ∧ AllLt _ _).2.2.2 | exact (by assumption : _ ∧ _ ∧ _ ∧ _ ∧ AllLt _ _).2.2.2.2)) (by (first | assumption | exact lt_from (by assumption) (by intro q hq; ((repeat refine List.Mem.tail _ ?_); first | exact hq | (refine List.mem_append.mpr (.inl ?_); ((repeat refine List.Mem.tail _ ?_); first | exact hq | (refine List.mem_append.mpr (.inl ?_); ((repeat refine List.Mem.tail _ ?_); first | exact hq)) | (refine List.mem_append.mpr (.inr ?_); ((repeat refine List.Mem.tail _ ?_); first | exact hq)))) | (refine List.mem_append.mpr (.inr ?_); ((repeat refine List.Mem.tail _ ?_); first | exact hq | (refine List.mem_append.mpr (.inl ?_); ((repeat refine List.Mem.tail _ ?_); first | exact hq)) | (refine List.mem_append.mpr (.inr ?_); ((repeat refine List.Mem.tail _ ?_); first | exact hq)))))) | exact allLt_of (by assumption) | exact (by assumption : _ ∧ AllLt _ _).2 | exact (by assumption : _ ∧ _ ∧ AllLt _ _).2.2 | exact (by assumption : _ ∧ _ ∧ _ ∧ AllLt _ _).2.2.2 | exact (by assumption : _ ∧ _ ∧ _ ∧ _ ∧ AllLt _ _).2.2.2.2))); (case ej => ((try rw [Int.one_mul, shl_eq (f3 (by assumption)).1 (f3 (by assumption)).2]); first | (simp [meaning, *]; done) | (unfold meaning; (repeat' split) <;> first | (exfalso; omega) | rfl))))
    )
  have q_means := pin X0 T0 (C := fun K V TL w => C_means K V TL w) (by
    as_aux_lemma =>
      revert q_memof
      (repeat (rename _ => zz; clear zz))
      (rename World => w)
      intro q_memof
      with_unfolding_all intro news v sh wo sz sg s1 s2 s3 hm hmod hrm hx hb hs
      obtain @⟨x, dx, _, k1, k2, k3, k4, k5, k6, t1, t2, t3, t4, t5, t6, n, hx, hd1⟩ := hm
      try (unfold Clls; k_fill; fail)
      k_dflt (refine' clls_enter ?k1j ?k2j ?k3j ?k4j ?k5j ?k6j ?k7j ?k8j ?_; (case k1j => k_is); (case k2j => k_is); (case k3j => exact fun _ => BindsTo.of_eq rfl); (case k4j => exact locs rfl); (case k5j => decide); (case k6j => exact rfl); (case k7j => exact rfl); (case k8j => exact rfl))
      intro mean mg mb dp un gd outer A₀ base h₀ L gs dw os h₁ tk E m B F X N T hG hd hu hE
      (try dsimp only)
      (try k_fold)
      repeat' (first | (k_unfold; (try dsimp only)) | walk1 | (dsimp only; walk1) | (leave1; (try dsimp only)) | fail "no step")
      all_goals (refine' fin_add _ ?ma9j ?mb9j ?mc9j ?me9j ?mf9j ?md9j; (case mb9j => assumption); (case mc9j => assumption); (case ma9j => assumption); (case me9j => exact fun p hp => .tail _ (.tail _ (List.mem_append.mpr (.inr hp)))); (case mf9j => exact fun p hp => .tail _ (.tail _ (List.mem_append.mpr (.inl hp)))); (case md9j => assumption))
    )
  have q_needless := pin X0 T0 (C := fun K V TL w => C_needless K V TL w) (by
    as_aux_lemma =>
      revert q_meaning
      (repeat (rename _ => zz; clear zz))
      (rename World => w)
      intro q_meaning
      with_unfolding_all intro news mod rm sib b t1 t2 t3 t4 hs
      try (unfold Clls; k_fill; fail)
      k_dflt (refine' clls_enter ?k1j ?k2j ?k3j ?k4j ?k5j ?k6j ?k7j ?k8j ?_; (case k1j => k_is); (case k2j => k_is); (case k3j => exact fun _ => BindsTo.of_eq rfl); (case k4j => exact locs rfl); (case k5j => decide); (case k6j => exact rfl); (case k7j => exact rfl); (case k8j => exact rfl))
      intro mean mg mb dp un gd outer A₀ base h₀ L gs dw os h₁ tk E m B F X N T hG hd hu hE
      (try dsimp only)
      (try k_fold)
      repeat' (first | (k_unfold; (try dsimp only)) | walk1 | (dsimp only; walk1) | (leave1; (try dsimp only)) | fail "no step")
      all_goals (refine fin_b (by assumption) (by assumption) (by (first | (intro p hp; (repeat refine List.Mem.tail _ ?_); exact hp) | (intro p hp; ((repeat refine List.Mem.tail _ ?_); first | exact hp | (refine List.mem_append.mpr (.inl ?_); ((repeat refine List.Mem.tail _ ?_); first | exact hp | (refine List.mem_append.mpr (.inl ?_); ((repeat refine List.Mem.tail _ ?_); first | exact hp)) | (refine List.mem_append.mpr (.inr ?_); ((repeat refine List.Mem.tail _ ?_); first | exact hp)))) | (refine List.mem_append.mpr (.inr ?_); ((repeat refine List.Mem.tail _ ?_); first | exact hp | (refine List.mem_append.mpr (.inl ?_); ((repeat refine List.Mem.tail _ ?_); first | exact hp)) | (refine List.mem_append.mpr (.inr ?_); ((repeat refine List.Mem.tail _ ?_); first | exact hp)))))) | kcj_all)) ?_; first | (simp [needless, Prod.ext_iff, *]; done) | (rw [Bool.eq_iff_iff]; (try simp only [needless, Prod.ext_iff]); (try ((repeat' split) <;> (try simp only [decide_eq_true_eq, beq_iff_eq, beq_eq_false_iff_ne, bne_iff_ne, ne_eq, Bool.and_eq_true, Bool.or_eq_true, Bool.not_eq_true', Bool.not_eq_false', Bool.and_eq_false_iff, Bool.or_eq_false_iff, decide_eq_false_iff_not, Bool.not_eq_true, Bool.false_eq_true, Bool.true_eq_false, gt_iff_lt, ge_iff_le, true_iff, iff_true, false_iff, iff_false, eq_self_iff_true]) <;> first | done | omega))))
    )
  have q_hasneed := pin X0 T0 (C := fun K V TL w => C_hasneed K V TL w) (by
    as_aux_lemma =>
      revert q_unpack
      (repeat (rename _ => zz; clear zz))
      (rename World => w)
      intro q_unpack
      with_unfolding_all intro news v sh hm
      obtain @⟨x, dx, _, k1, k2, k3, k4, k5, k6, t1, t2, t3, t4, t5, t6, n, hx, hd1⟩ := hm
      try (unfold Clls; k_fill; fail)
      k_dflt (refine' clls_enter ?k1j ?k2j ?k3j ?k4j ?k5j ?k6j ?k7j ?k8j ?_; (case k1j => k_is); (case k2j => k_is); (case k3j => exact fun _ => BindsTo.of_eq rfl); (case k4j => exact locs rfl); (case k5j => decide); (case k6j => exact rfl); (case k7j => exact rfl); (case k8j => exact rfl))
      intro mean mg mb dp un gd outer A₀ base h₀ L gs dw os h₁ tk E m B F X N T hG hd hu hE
      (try dsimp only)
      (try k_fold)
      repeat' (first | (k_unfold; (try dsimp only)) | walk1 | (dsimp only; walk1) | (leave1; (try dsimp only)) | fail "no step")
      all_goals (refine fin_b (by assumption) (by assumption) (by (first | (intro p hp; (repeat refine List.Mem.tail _ ?_); exact hp) | (intro p hp; ((repeat refine List.Mem.tail _ ?_); first | exact hp | (refine List.mem_append.mpr (.inl ?_); ((repeat refine List.Mem.tail _ ?_); first | exact hp | (refine List.mem_append.mpr (.inl ?_); ((repeat refine List.Mem.tail _ ?_); first | exact hp)) | (refine List.mem_append.mpr (.inr ?_); ((repeat refine List.Mem.tail _ ?_); first | exact hp)))) | (refine List.mem_append.mpr (.inr ?_); ((repeat refine List.Mem.tail _ ?_); first | exact hp | (refine List.mem_append.mpr (.inl ?_); ((repeat refine List.Mem.tail _ ?_); first | exact hp)) | (refine List.mem_append.mpr (.inr ?_); ((repeat refine List.Mem.tail _ ?_); first | exact hp)))))) | kcj_all)) ?_; rw [Bool.eq_iff_iff]; unfold needSh; (repeat' split) <;> (try simp only [decide_eq_true_eq, beq_iff_eq, beq_eq_false_iff_ne, bne_iff_ne, ne_eq, Bool.and_eq_true, Bool.or_eq_true, Bool.not_eq_true', Bool.not_eq_false', Bool.and_eq_false_iff, Bool.or_eq_false_iff, decide_eq_false_iff_not, Bool.not_eq_true, Bool.false_eq_true, Bool.true_eq_false, gt_iff_lt, ge_iff_le, true_iff, iff_true, false_iff, iff_false, eq_self_iff_true]) <;> first | done | omega)
    )
  have q_told := pin X0 T0 (C := fun K V TL w => C_told K V TL w) (by
    as_aux_lemma =>
      (repeat (rename _ => zz; clear zz))
      (rename World => w)
      with_unfolding_all intro news v b i sc wo sz sg nm hm
      obtain @⟨x, dx, v1, v2, _, _, _, _, _, _, _, k0, k1, k2, k3, k4, k5, k6, k7, t0, t3, t4, t5, t6, t7, n, hx, hd1, hb, hi⟩ := hm
      rcases hb.named with ⟨rfl, rfl⟩ | ⟨r8, dr8, kd8, nn8, _, _, _, _, _, _, _, _, _, rfl, jr8, jd8⟩
      · rcases hi.named with ⟨rfl, rfl⟩ | ⟨r9, dr9, kd9, nn9, _, _, _, _, _, _, _, _, _, rfl, jr9, jd9⟩
        · skip
          try (unfold Clls; k_fill; fail)
          k_dflt (refine' clls_enter ?k1j ?k2j ?k3j ?k4j ?k5j ?k6j ?k7j ?k8j ?_; (case k1j => k_is); (case k2j => k_is); (case k3j => exact fun _ => BindsTo.of_eq rfl); (case k4j => exact locs rfl); (case k5j => decide); (case k6j => exact rfl); (case k7j => exact rfl); (case k8j => exact rfl))
          intro mean mg mb dp un gd outer A₀ base h₀ L gs dw os h₁ tk E m B F X N T hG hd hu hE
          (try dsimp only)
          (try k_fold)
          repeat' (first | (k_unfold; (try dsimp only)) | walk1 | (dsimp only; walk1) | (leave1; (try dsimp only)) | fail "no step")
          all_goals exact fin_t8 (by assumption) (by assumption) (by (repeat (first | exact List.Mem.head _ | refine List.Mem.tail _ ?_))) (by (first | (intro p hp; (repeat refine List.Mem.tail _ ?_); exact hp) | (intro p hp; ((repeat refine List.Mem.tail _ ?_); first | exact hp | (refine List.mem_append.mpr (.inl ?_); ((repeat refine List.Mem.tail _ ?_); first | exact hp | (refine List.mem_append.mpr (.inl ?_); ((repeat refine List.Mem.tail _ ?_); first | exact hp)) | (refine List.mem_append.mpr (.inr ?_); ((repeat refine List.Mem.tail _ ?_); first | exact hp)))) | (refine List.mem_append.mpr (.inr ?_); ((repeat refine List.Mem.tail _ ?_); first | exact hp | (refine List.mem_append.mpr (.inl ?_); ((repeat refine List.Mem.tail _ ?_); first | exact hp)) | (refine List.mem_append.mpr (.inr ?_); ((repeat refine List.Mem.tail _ ?_); first | exact hp)))))) | kcj_all)) (by (first | assumption | exact lt_from (by assumption) (by intro q hq; ((repeat refine List.Mem.tail _ ?_); first | exact hq | (refine List.mem_append.mpr (.inl ?_); ((repeat refine List.Mem.tail _ ?_); first | exact hq | (refine List.mem_append.mpr (.inl ?_); ((repeat refine List.Mem.tail _ ?_); first | exact hq)) | (refine List.mem_append.mpr (.inr ?_); ((repeat refine List.Mem.tail _ ?_); first | exact hq)))) | (refine List.mem_append.mpr (.inr ?_); ((repeat refine List.Mem.tail _ ?_); first | exact hq | (refine List.mem_append.mpr (.inl ?_); ((repeat refine List.Mem.tail _ ?_); first | exact hq)) | (refine List.mem_append.mpr (.inr ?_); ((repeat refine List.Mem.tail _ ?_); first | exact hq)))))) | exact allLt_of (by assumption) | exact (by assumption : _ ∧ AllLt _ _).2 | exact (by assumption : _ ∧ _ ∧ AllLt _ _).2.2 | exact (by assumption : _ ∧ _ ∧ _ ∧ AllLt _ _).2.2.2 | exact (by assumption : _ ∧ _ ∧ _ ∧ _ ∧ AllLt _ _).2.2.2.2)) rfl (by first | rfl | assumption) (by first | rfl | assumption)
        · skip
          try (unfold Clls; k_fill; fail)
          k_dflt (refine' clls_enter ?k1j ?k2j ?k3j ?k4j ?k5j ?k6j ?k7j ?k8j ?_; (case k1j => k_is); (case k2j => k_is); (case k3j => exact fun _ => BindsTo.of_eq rfl); (case k4j => exact locs rfl); (case k5j => decide); (case k6j => exact rfl); (case k7j => exact rfl); (case k8j => exact rfl))
          intro mean mg mb dp un gd outer A₀ base h₀ L gs dw os h₁ tk E m B F X N T hG hd hu hE
          (try dsimp only)
          (try k_fold)
          repeat' (first | (k_unfold; (try dsimp only)) | walk1 | (dsimp only; walk1) | (leave1; (try dsimp only)) | fail "no step")
          all_goals exact fin_t8 (by assumption) (by assumption) (by (repeat (first | exact List.Mem.head _ | refine List.Mem.tail _ ?_))) (by (first | (intro p hp; (repeat refine List.Mem.tail _ ?_); exact hp) | (intro p hp; ((repeat refine List.Mem.tail _ ?_); first | exact hp | (refine List.mem_append.mpr (.inl ?_); ((repeat refine List.Mem.tail _ ?_); first | exact hp | (refine List.mem_append.mpr (.inl ?_); ((repeat refine List.Mem.tail _ ?_); first | exact hp)) | (refine List.mem_append.mpr (.inr ?_); ((repeat refine List.Mem.tail _ ?_); first | exact hp)))) | (refine List.mem_append.mpr (.inr ?_); ((repeat refine List.Mem.tail _ ?_); first | exact hp | (refine List.mem_append.mpr (.inl ?_); ((repeat refine List.Mem.tail _ ?_); first | exact hp)) | (refine List.mem_append.mpr (.inr ?_); ((repeat refine List.Mem.tail _ ?_); first | exact hp)))))) | kcj_all)) (by (first | assumption | exact lt_from (by assumption) (by intro q hq; ((repeat refine List.Mem.tail _ ?_); first | exact hq | (refine List.mem_append.mpr (.inl ?_); ((repeat refine List.Mem.tail _ ?_); first | exact hq | (refine List.mem_append.mpr (.inl ?_); ((repeat refine List.Mem.tail _ ?_); first | exact hq)) | (refine List.mem_append.mpr (.inr ?_); ((repeat refine List.Mem.tail _ ?_); first | exact hq)))) | (refine List.mem_append.mpr (.inr ?_); ((repeat refine List.Mem.tail _ ?_); first | exact hq | (refine List.mem_append.mpr (.inl ?_); ((repeat refine List.Mem.tail _ ?_); first | exact hq)) | (refine List.mem_append.mpr (.inr ?_); ((repeat refine List.Mem.tail _ ?_); first | exact hq)))))) | exact allLt_of (by assumption) | exact (by assumption : _ ∧ AllLt _ _).2 | exact (by assumption : _ ∧ _ ∧ AllLt _ _).2.2 | exact (by assumption : _ ∧ _ ∧ _ ∧ AllLt _ _).2.2.2 | exact (by assumption : _ ∧ _ ∧ _ ∧ _ ∧ AllLt _ _).2.2.2.2)) rfl (by first | rfl | assumption) (by first | rfl | assumption)
      · rcases hi.named with ⟨rfl, rfl⟩ | ⟨r9, dr9, kd9, nn9, _, _, _, _, _, _, _, _, _, rfl, jr9, jd9⟩
        · skip
          try (unfold Clls; k_fill; fail)
          k_dflt (refine' clls_enter ?k1j ?k2j ?k3j ?k4j ?k5j ?k6j ?k7j ?k8j ?_; (case k1j => k_is); (case k2j => k_is); (case k3j => exact fun _ => BindsTo.of_eq rfl); (case k4j => exact locs rfl); (case k5j => decide); (case k6j => exact rfl); (case k7j => exact rfl); (case k8j => exact rfl))
          intro mean mg mb dp un gd outer A₀ base h₀ L gs dw os h₁ tk E m B F X N T hG hd hu hE
          (try dsimp only)
          (try k_fold)
          repeat' (first | (k_unfold; (try dsimp only)) | walk1 | (dsimp only; walk1) | (leave1; (try dsimp only)) | fail "no step")
          all_goals exact fin_t8 (by assumption) (by assumption) (by (repeat (first | exact List.Mem.head _ | refine List.Mem.tail _ ?_))) (by (first | (intro p hp; (repeat refine List.Mem.tail _ ?_); exact hp) | (intro p hp; ((repeat refine List.Mem.tail _ ?_); first | exact hp | (refine List.mem_append.mpr (.inl ?_); ((repeat refine List.Mem.tail _ ?_); first | exact hp | (refine List.mem_append.mpr (.inl ?_); ((repeat refine List.Mem.tail _ ?_); first | exact hp)) | (refine List.mem_append.mpr (.inr ?_); ((repeat refine List.Mem.tail _ ?_); first | exact hp)))) | (refine List.mem_append.mpr (.inr ?_); ((repeat refine List.Mem.tail _ ?_); first | exact hp | (refine List.mem_append.mpr (.inl ?_); ((repeat refine List.Mem.tail _ ?_); first | exact hp)) | (refine List.mem_append.mpr (.inr ?_); ((repeat refine List.Mem.tail _ ?_); first | exact hp)))))) | kcj_all)) (by (first | assumption | exact lt_from (by assumption) (by intro q hq; ((repeat refine List.Mem.tail _ ?_); first | exact hq | (refine List.mem_append.mpr (.inl ?_); ((repeat refine List.Mem.tail _ ?_); first | exact hq | (refine List.mem_append.mpr (.inl ?_); ((repeat refine List.Mem.tail _ ?_); first | exact hq)) | (refine List.mem_append.mpr (.inr ?_); ((repeat refine List.Mem.tail _ ?_); first | exact hq)))) | (refine List.mem_append.mpr (.inr ?_); ((repeat refine List.Mem.tail _ ?_); first | exact hq | (refine List.mem_append.mpr (.inl ?_); ((repeat refine List.Mem.tail _ ?_); first | exact hq)) | (refine List.mem_append.mpr (.inr ?_); ((repeat refine List.Mem.tail _ ?_); first | exact hq)))))) | exact allLt_of (by assumption) | exact (by assumption : _ ∧ AllLt _ _).2 | exact (by assumption : _ ∧ _ ∧ AllLt _ _).2.2 | exact (by assumption : _ ∧ _ ∧ _ ∧ AllLt _ _).2.2.2 | exact (by assumption : _ ∧ _ ∧ _ ∧ _ ∧ AllLt _ _).2.2.2.2)) rfl (by first | rfl | assumption) (by first | rfl | assumption)
        · skip
          try (unfold Clls; k_fill; fail)
          k_dflt (refine' clls_enter ?k1j ?k2j ?k3j ?k4j ?k5j ?k6j ?k7j ?k8j ?_; (case k1j => k_is); (case k2j => k_is); (case k3j => exact fun _ => BindsTo.of_eq rfl); (case k4j => exact locs rfl); (case k5j => decide); (case k6j => exact rfl); (case k7j => exact rfl); (case k8j => exact rfl))
          intro mean mg mb dp un gd outer A₀ base h₀ L gs dw os h₁ tk E m B F X N T hG hd hu hE
          (try dsimp only)
          (try k_fold)
          repeat' (first | (k_unfold; (try dsimp only)) | walk1 | (dsimp only; walk1) | (leave1; (try dsimp only)) | fail "no step")
          all_goals exact fin_t8 (by assumption) (by assumption) (by (repeat (first | exact List.Mem.head _ | refine List.Mem.tail _ ?_))) (by (first | (intro p hp; (repeat refine List.Mem.tail _ ?_); exact hp) | (intro p hp; ((repeat refine List.Mem.tail _ ?_); first | exact hp | (refine List.mem_append.mpr (.inl ?_); ((repeat refine List.Mem.tail _ ?_); first | exact hp | (refine List.mem_append.mpr (.inl ?_); ((repeat refine List.Mem.tail _ ?_); first | exact hp)) | (refine List.mem_append.mpr (.inr ?_); ((repeat refine List.Mem.tail _ ?_); first | exact hp)))) | (refine List.mem_append.mpr (.inr ?_); ((repeat refine List.Mem.tail _ ?_); first | exact hp | (refine List.mem_append.mpr (.inl ?_); ((repeat refine List.Mem.tail _ ?_); first | exact hp)) | (refine List.mem_append.mpr (.inr ?_); ((repeat refine List.Mem.tail _ ?_); first | exact hp)))))) | kcj_all)) (by (first | assumption | exact lt_from (by assumption) (by intro q hq; ((repeat refine List.Mem.tail _ ?_); first | exact hq | (refine List.mem_append.mpr (.inl ?_); ((repeat refine List.Mem.tail _ ?_); first | exact hq | (refine List.mem_append.mpr (.inl ?_); ((repeat refine List.Mem.tail _ ?_); first | exact hq)) | (refine List.mem_append.mpr (.inr ?_); ((repeat refine List.Mem.tail _ ?_); first | exact hq)))) | (refine List.mem_append.mpr (.inr ?_); ((repeat refine List.Mem.tail _ ?_); first | exact hq | (refine List.mem_append.mpr (.inl ?_); ((repeat refine List.Mem.tail _ ?_); first | exact hq)) | (refine List.mem_append.mpr (.inr ?_); ((repeat refine List.Mem.tail _ ?_); first | exact hq)))))) | exact allLt_of (by assumption) | exact (by assumption : _ ∧ AllLt _ _).2 | exact (by assumption : _ ∧ _ ∧ AllLt _ _).2.2 | exact (by assumption : _ ∧ _ ∧ _ ∧ AllLt _ _).2.2.2 | exact (by assumption : _ ∧ _ ∧ _ ∧ _ ∧ AllLt _ _).2.2.2.2)) rfl (by first | rfl | assumption) (by first | rfl | assumption)
    )
  have q_odd := pin X0 T0 (C := fun K V TL w => C_odd K V TL w) (by
    as_aux_lemma =>
      revert q_cell q_mkshape q_width q_meaning q_means q_word q_needless q_hasneed q_told
      (repeat (rename _ => zz; clear zz))
      (rename World => w)
      intro q_cell q_mkshape q_width q_meaning q_means q_word q_needless q_hasneed q_told
      with_unfolding_all intro news l vs ns hi hn
      have os : Own 4 := ⟨trivial⟩
      try (unfold Clls; k_fill; fail)
      k_dflt (refine' clls_enter ?k1j ?k2j ?k3j ?k4j ?k5j ?k6j ?k7j ?k8j ?_; (case k1j => k_is); (case k2j => k_is); (case k3j => exact fun _ => BindsTo.of_eq rfl); (case k4j => exact locs rfl); (case k5j => decide); (case k6j => exact rfl); (case k7j => exact rfl); (case k8j => exact rfl))
      intro mean mg mb dp un gd outer A₀ base h₀ L gs dw os h₁ tk E m B F X N T hG hd hu hE
      (try dsimp only)
      (try k_fold)
      repeat' (first | (k_unfold; (try dsimp only)) | walk1 | (dsimp only; walk1) | (leave1; (try dsimp only)) | fail "no step")
      all_goals (refine fin_b (by assumption) (by assumption) (by (first | (intro p hp; (repeat refine List.Mem.tail _ ?_); exact hp) | (intro p hp; ((repeat refine List.Mem.tail _ ?_); first | exact hp | (refine List.mem_append.mpr (.inl ?_); ((repeat refine List.Mem.tail _ ?_); first | exact hp | (refine List.mem_append.mpr (.inl ?_); ((repeat refine List.Mem.tail _ ?_); first | exact hp)) | (refine List.mem_append.mpr (.inr ?_); ((repeat refine List.Mem.tail _ ?_); first | exact hp)))) | (refine List.mem_append.mpr (.inr ?_); ((repeat refine List.Mem.tail _ ?_); first | exact hp | (refine List.mem_append.mpr (.inl ?_); ((repeat refine List.Mem.tail _ ?_); first | exact hp)) | (refine List.mem_append.mpr (.inr ?_); ((repeat refine List.Mem.tail _ ?_); first | exact hp)))))) | kcj_all)) ?_; rw [beq_iff_eq]; first | ((rename (¬ (_ : Int) < 0) => c9); (rename (Int.fdiv _ 2 = 0) => x9); exact odd_e2 bd32 bdd (by first | exact Or.inl ⟨rfl, bd256⟩ | exact Or.inr ⟨by assumption, rfl⟩) x9 c9) | ((rename ((Prod.fst (Prod.snd _) : Int) < 0) => c9); (rename (Int.fdiv _ 2 = 0) => x9); exact odd_e1 bd32 bdd (by first | exact Or.inl ⟨rfl, bd256⟩ | exact Or.inr ⟨by assumption, rfl⟩) x9 c9) | ((rename (Int.fdiv _ 2 = 0) => x9); (rename (Int.fmod _ 4 = 3) => y9); exact absurd (three_no y9 x9) id) | ((rename (Int.fdiv _ 2 ≠ 0) => x9); exact odd_e3 bd32 bdd (by first | exact Or.inl ⟨rfl, bd256⟩ | exact Or.inr ⟨by assumption, rfl⟩) x9))
    )
  have q_tidy := pin X0 T0 (C := fun K V TL w => C_tidy K V TL w) (by
    as_aux_lemma =>
      (repeat (rename _ => zz; clear zz))
      (rename World => w)
      with_unfolding_all intro news mod rm sib x b t1 t2 t3 t4 t5
      try (unfold Clls; k_fill; fail)
      k_dflt (refine' clls_enter ?k1j ?k2j ?k3j ?k4j ?k5j ?k6j ?k7j ?k8j ?_; (case k1j => k_is); (case k2j => k_is); (case k3j => exact fun _ => BindsTo.of_eq rfl); (case k4j => exact locs rfl); (case k5j => decide); (case k6j => exact rfl); (case k7j => exact rfl); (case k8j => exact rfl))
      intro mean mg mb dp un gd outer A₀ base h₀ L gs dw os h₁ tk E m B F X N T hG hd hu hE
      (try dsimp only)
      (try k_fold)
      repeat' (first | (k_unfold; (try dsimp only)) | walk1 | (dsimp only; walk1) | (leave1; (try dsimp only)) | fail "no step")
      all_goals (refine fin_b (by assumption) (by assumption) (by (first | (intro p hp; (repeat refine List.Mem.tail _ ?_); exact hp) | (intro p hp; ((repeat refine List.Mem.tail _ ?_); first | exact hp | (refine List.mem_append.mpr (.inl ?_); ((repeat refine List.Mem.tail _ ?_); first | exact hp | (refine List.mem_append.mpr (.inl ?_); ((repeat refine List.Mem.tail _ ?_); first | exact hp)) | (refine List.mem_append.mpr (.inr ?_); ((repeat refine List.Mem.tail _ ?_); first | exact hp)))) | (refine List.mem_append.mpr (.inr ?_); ((repeat refine List.Mem.tail _ ?_); first | exact hp | (refine List.mem_append.mpr (.inl ?_); ((repeat refine List.Mem.tail _ ?_); first | exact hp)) | (refine List.mem_append.mpr (.inr ?_); ((repeat refine List.Mem.tail _ ?_); first | exact hp)))))) | kcj_all)) ?_; first | (simp [tidy, *]; done) | (rw [Bool.eq_iff_iff]; (try simp only [tidy]); (try ((repeat' split) <;> (try simp only [decide_eq_true_eq, beq_iff_eq, beq_eq_false_iff_ne, bne_iff_ne, ne_eq, Bool.and_eq_true, Bool.or_eq_true, Bool.not_eq_true', Bool.not_eq_false', Bool.and_eq_false_iff, Bool.or_eq_false_iff, decide_eq_false_iff_not, Bool.not_eq_true, Bool.false_eq_true, Bool.true_eq_false, gt_iff_lt, ge_iff_le, true_iff, iff_true, false_iff, iff_false, eq_self_iff_true]) <;> first | done | omega))))
    )
  have q_bears := pin X0 T0 (C := fun K V TL w => C_bears K V TL w) (by
    as_aux_lemma =>
      (repeat (rename _ => zz; clear zz))
      (rename World => w)
      with_unfolding_all intro news wd worth named t1 t2
      cases named
      · skip
        try (unfold Clls; k_fill; fail)
        k_dflt (refine' clls_enter ?k1j ?k2j ?k3j ?k4j ?k5j ?k6j ?k7j ?k8j ?_; (case k1j => k_is); (case k2j => k_is); (case k3j => exact fun _ => BindsTo.of_eq rfl); (case k4j => exact locs rfl); (case k5j => decide); (case k6j => exact rfl); (case k7j => exact rfl); (case k8j => exact rfl))
        intro mean mg mb dp un gd outer A₀ base h₀ L gs dw os h₁ tk E m B F X N T hG hd hu hE
        (try dsimp only)
        (try k_fold)
        repeat' (first | (k_unfold; (try dsimp only)) | walk1 | (dsimp only; walk1) | (leave1; (try dsimp only)) | fail "no step")
        all_goals (refine fin_b (by assumption) (by assumption) (by (first | (intro p hp; (repeat refine List.Mem.tail _ ?_); exact hp) | (intro p hp; ((repeat refine List.Mem.tail _ ?_); first | exact hp | (refine List.mem_append.mpr (.inl ?_); ((repeat refine List.Mem.tail _ ?_); first | exact hp | (refine List.mem_append.mpr (.inl ?_); ((repeat refine List.Mem.tail _ ?_); first | exact hp)) | (refine List.mem_append.mpr (.inr ?_); ((repeat refine List.Mem.tail _ ?_); first | exact hp)))) | (refine List.mem_append.mpr (.inr ?_); ((repeat refine List.Mem.tail _ ?_); first | exact hp | (refine List.mem_append.mpr (.inl ?_); ((repeat refine List.Mem.tail _ ?_); first | exact hp)) | (refine List.mem_append.mpr (.inr ?_); ((repeat refine List.Mem.tail _ ?_); first | exact hp)))))) | kcj_all)) ?_; first | (simp [bears, *]; done) | (rw [Bool.eq_iff_iff]; (try simp only [bears]); (try ((repeat' split) <;> (try simp only [decide_eq_true_eq, beq_iff_eq, beq_eq_false_iff_ne, bne_iff_ne, ne_eq, Bool.and_eq_true, Bool.or_eq_true, Bool.not_eq_true', Bool.not_eq_false', Bool.and_eq_false_iff, Bool.or_eq_false_iff, decide_eq_false_iff_not, Bool.not_eq_true, Bool.false_eq_true, Bool.true_eq_false, gt_iff_lt, ge_iff_le, true_iff, iff_true, false_iff, iff_false, eq_self_iff_true]) <;> first | done | omega))))
      · skip
        try (unfold Clls; k_fill; fail)
        k_dflt (refine' clls_enter ?k1j ?k2j ?k3j ?k4j ?k5j ?k6j ?k7j ?k8j ?_; (case k1j => k_is); (case k2j => k_is); (case k3j => exact fun _ => BindsTo.of_eq rfl); (case k4j => exact locs rfl); (case k5j => decide); (case k6j => exact rfl); (case k7j => exact rfl); (case k8j => exact rfl))
        intro mean mg mb dp un gd outer A₀ base h₀ L gs dw os h₁ tk E m B F X N T hG hd hu hE
        (try dsimp only)
        (try k_fold)
        repeat' (first | (k_unfold; (try dsimp only)) | walk1 | (dsimp only; walk1) | (leave1; (try dsimp only)) | fail "no step")
        all_goals (refine fin_b (by assumption) (by assumption) (by (first | (intro p hp; (repeat refine List.Mem.tail _ ?_); exact hp) | (intro p hp; ((repeat refine List.Mem.tail _ ?_); first | exact hp | (refine List.mem_append.mpr (.inl ?_); ((repeat refine List.Mem.tail _ ?_); first | exact hp | (refine List.mem_append.mpr (.inl ?_); ((repeat refine List.Mem.tail _ ?_); first | exact hp)) | (refine List.mem_append.mpr (.inr ?_); ((repeat refine List.Mem.tail _ ?_); first | exact hp)))) | (refine List.mem_append.mpr (.inr ?_); ((repeat refine List.Mem.tail _ ?_); first | exact hp | (refine List.mem_append.mpr (.inl ?_); ((repeat refine List.Mem.tail _ ?_); first | exact hp)) | (refine List.mem_append.mpr (.inr ?_); ((repeat refine List.Mem.tail _ ?_); first | exact hp)))))) | kcj_all)) ?_; first | (simp [bears, *]; done) | (rw [Bool.eq_iff_iff]; (try simp only [bears]); (try ((repeat' split) <;> (try simp only [decide_eq_true_eq, beq_iff_eq, beq_eq_false_iff_ne, bne_iff_ne, ne_eq, Bool.and_eq_true, Bool.or_eq_true, Bool.not_eq_true', Bool.not_eq_false', Bool.and_eq_false_iff, Bool.or_eq_false_iff, decide_eq_false_iff_not, Bool.not_eq_true, Bool.false_eq_true, Bool.true_eq_false, gt_iff_lt, ge_iff_le, true_iff, iff_true, false_iff, iff_false, eq_self_iff_true]) <;> first | done | omega))))
    )
  have q_all := pin X0 T0 (C := fun K V TL w => C_all K V TL w) (by
    as_aux_lemma =>
      revert q_meaning q_tidy q_width q_bears
      (repeat (rename _ => zz; clear zz))
      (rename World => w)
      intro q_meaning q_tidy q_width q_bears
      with_unfolding_all intro news D b i sc wo named t1 t2 t3 t4 n hD hb
      have ol : OwnLoops := ⟨trivial⟩
      try (unfold Clls; k_fill; fail)
      k_dflt (refine' clls_enter ?k1j ?k2j ?k3j ?k4j ?k5j ?k6j ?k7j ?k8j ?_; (case k1j => k_is); (case k2j => k_is); (case k3j => exact fun _ => BindsTo.of_eq rfl); (case k4j => exact locs rfl); (case k5j => decide); (case k6j => exact rfl); (case k7j => exact rfl); (case k8j => exact rfl))
      intro mean mg mb dp un gd outer A₀ base h₀ L gs dw os h₁ tk E m B F X N T hG hd hu hE
      (try dsimp only)
      (try k_fold)
      repeat' (first | (k_unfold; (try dsimp only)) | walk1 | (dsimp only; walk1) | (leave1; (try dsimp only)) | fail "no step")
      unfold Stop
      (rename News _ _ _ _ => Nn)
      (rename Fr _ _ _ _ => Fn)
      refine' loop_range (n := 32) [] (fun k us tl => IntsAre us (sibsTo b k) ∧ tl = []) rfl (by assumption) (by decide) (by decide) Fn Nn (.tail _ (.tail _ (.head _))) keep2 ?hoffj ⟨.nil, rfl⟩ ?turnj ?donej
      case hoffj => exact List.forall_mem_cons.mpr ⟨by (first | k_ne | exact Nat.ne_of_lt (by omega) | exact Nat.ne_of_gt (by omega)), List.forall_mem_cons.mpr ⟨by (first | k_ne | exact Nat.ne_of_lt (by omega) | exact Nat.ne_of_gt (by omega)), by exact fun p hp => Nat.ne_of_lt (ktn_ltOf (by (first | assumption | exact lt_from (by assumption) (by intro q hq; ((repeat refine List.Mem.tail _ ?_); first | exact hq | (refine List.mem_append.mpr (.inl ?_); ((repeat refine List.Mem.tail _ ?_); first | exact hq | (refine List.mem_append.mpr (.inl ?_); ((repeat refine List.Mem.tail _ ?_); first | exact hq)) | (refine List.mem_append.mpr (.inr ?_); ((repeat refine List.Mem.tail _ ?_); first | exact hq)))) | (refine List.mem_append.mpr (.inr ?_); ((repeat refine List.Mem.tail _ ?_); first | exact hq | (refine List.mem_append.mpr (.inl ?_); ((repeat refine List.Mem.tail _ ?_); first | exact hq)) | (refine List.mem_append.mpr (.inr ?_); ((repeat refine List.Mem.tail _ ?_); first | exact hq)))))) | exact allLt_of (by assumption) | exact (by assumption : _ ∧ AllLt _ _).2 | exact (by assumption : _ ∧ _ ∧ AllLt _ _).2.2 | exact (by assumption : _ ∧ _ ∧ _ ∧ AllLt _ _).2.2.2 | exact (by assumption : _ ∧ _ ∧ _ ∧ _ ∧ AllLt _ _).2.2.2.2)) p hp)⟩⟩
      case turnj =>
        intro k t us nn tl own rest u h tk hk hI hR kR tR oR Ft Nt
        have hD2 := kR _ (.tail _ (.tail _ hD))
        obtain ⟨hI1, hI2⟩ := hI
        have off := hR.off
        have hz := sibs_size hI1
        subst hI2
        (try k_fold)
        repeat' (first | (k_unfold; (try dsimp only)) | walk1 | (dsimp only; walk1) | (leave1; (try dsimp only)) | fail "no step")
        all_goals (try dsimp only [PostM])
        all_goals (refine' EndM.intro [] (by assumption) (by assumption) ?hf9j ?hr9j no_sub no_lt2 ?hm9j ⟨?i9j, rfl⟩; (case hf9j => (repeat (first | exact List.Mem.head _ | refine List.Mem.tail _ ?_))); (case hr9j => (first | (intro p hp; (repeat refine List.Mem.tail _ ?_); exact hp) | (intro p hp; ((repeat refine List.Mem.tail _ ?_); first | exact hp | (refine List.mem_append.mpr (.inl ?_); ((repeat refine List.Mem.tail _ ?_); first | exact hp | (refine List.mem_append.mpr (.inl ?_); ((repeat refine List.Mem.tail _ ?_); first | exact hp)) | (refine List.mem_append.mpr (.inr ?_); ((repeat refine List.Mem.tail _ ?_); first | exact hp)))) | (refine List.mem_append.mpr (.inr ?_); ((repeat refine List.Mem.tail _ ?_); first | exact hp | (refine List.mem_append.mpr (.inl ?_); ((repeat refine List.Mem.tail _ ?_); first | exact hp)) | (refine List.mem_append.mpr (.inr ?_); ((repeat refine List.Mem.tail _ ?_); first | exact hp)))))) | kcj_all)); (case hm9j => (intro z h1 h2; exact tm1 h1 (tm2 h2 rfl))); (case i9j => (refine sibs_step hI1 ?_; unfold sibF; split <;> first | omega | rfl)))
      case donej =>
        intro us nn tl u h tk hI hord Fd Nd
        obtain ⟨hI1, hI2⟩ := hI
        subst hI2
        (try k_fold)
        repeat' (first | (k_unfold; (try dsimp only)) | walk1 | (dsimp only; walk1) | (leave1; (try dsimp only)) | fail "no step")
        unfold Stop
        (rename News _ _ _ _ => Nna)
        (rename Fr _ _ _ _ => Fna)
        (try simp only [List.nil_append] at Nna)
        refine' loop_range (n := 3) [Str.ofString "bits", Str.ofString "x", Str.ofString "b", Str.ofString "rm", Str.ofString "sib", Str.ofString "width"] (fun k us tl => Grow [] ((List.range k).flatMap (lawMod b i sc wo named)) us tl) rfl (by assumption) (by decide) (by decide) Fna Nna (by (repeat (first | exact List.Mem.head _ | refine List.Mem.tail _ ?_))) keep2 ?hoffaj (Grow.start []) ?turnaj ?doneaj
        case hoffaj => exact List.forall_mem_cons.mpr ⟨by (first | k_ne | exact Nat.ne_of_lt (by omega) | exact Nat.ne_of_gt (by omega)), List.forall_mem_cons.mpr ⟨by (first | k_ne | exact Nat.ne_of_lt (by omega) | exact Nat.ne_of_gt (by omega)), by exact fun p hp => Nat.ne_of_lt (ktn_ltOf (by (first | assumption | exact lt_from (by assumption) (by intro q hq; ((repeat refine List.Mem.tail _ ?_); first | exact hq | (refine List.mem_append.mpr (.inl ?_); ((repeat refine List.Mem.tail _ ?_); first | exact hq | (refine List.mem_append.mpr (.inl ?_); ((repeat refine List.Mem.tail _ ?_); first | exact hq)) | (refine List.mem_append.mpr (.inr ?_); ((repeat refine List.Mem.tail _ ?_); first | exact hq)))) | (refine List.mem_append.mpr (.inr ?_); ((repeat refine List.Mem.tail _ ?_); first | exact hq | (refine List.mem_append.mpr (.inl ?_); ((repeat refine List.Mem.tail _ ?_); first | exact hq)) | (refine List.mem_append.mpr (.inr ?_); ((repeat refine List.Mem.tail _ ?_); first | exact hq)))))) | exact allLt_of (by assumption) | exact (by assumption : _ ∧ AllLt _ _).2 | exact (by assumption : _ ∧ _ ∧ AllLt _ _).2.2 | exact (by assumption : _ ∧ _ ∧ _ ∧ AllLt _ _).2.2.2 | exact (by assumption : _ ∧ _ ∧ _ ∧ _ ∧ AllLt _ _).2.2.2.2)) p hp)⟩⟩
        case turnaj =>
          intro ka ta usa nna tla owna resta ua hpa tka hka hIa hRa kRa tRa oRa Fta Nta
          have hD2 := kRa _ (.tail _ (.tail _ hD))
          have hs2 := kRa _ (.head _)
          have offa := hRa.off
          (try k_fold)
          repeat' (first | (k_unfold; (try dsimp only)) | walk1 | (dsimp only; walk1) | (leave1; (try dsimp only)) | fail "no step")
          unfold Stop
          (rename News _ _ _ _ => Nnb)
          (rename Fr _ _ _ _ => Fnb)
          (try simp only [List.nil_append] at Nnb)
          refine' loop_range (n := 4) [Str.ofString "x", Str.ofString "b", Str.ofString "rm", Str.ofString "sib", Str.ofString "width"] (fun k us tl => Grow usa.toList ((List.range k).flatMap (lawBits b i sc wo named (ka : Int))) us tl) rfl (by assumption) (by decide) (by decide) Fnb Nnb (by (repeat (first | exact List.Mem.head _ | refine List.Mem.tail _ ?_))) keep0 ?hoffbj (Grow.start _) ?turnbj ?donebj
          case hoffbj => exact hRa.off
          case turnbj =>
            intro kb tb usb nnb tlb ownb restb ub hpb tkb hkb hIb hRb kRb tRb oRb Ftb Ntb
            have hD3 := kRb _ hD2
            have hs3 := kRb _ hs2
            have offb := hRb.off
            (try k_fold)
            repeat' (first | (k_unfold; (try dsimp only)) | walk1 | (dsimp only; walk1) | (leave1; (try dsimp only)) | fail "no step")
            unfold Stop
            (rename News _ _ _ _ => Nnc)
            (rename Fr _ _ _ _ => Fnc)
            (try simp only [List.nil_append] at Nnc)
            refine' loop_range (n := 8) [Str.ofString "sib", Str.ofString "width"] (fun k us tl => Grow usb.toList ((List.range k).flatMap (lawRm b i sc wo named (ka : Int) (Int.fdiv kb 2) (Int.fmod kb 2))) us tl) rfl (by assumption) (by decide) (by decide) Fnc Nnc (by (repeat (first | exact List.Mem.head _ | refine List.Mem.tail _ ?_))) keep1 ?hoffcj (Grow.start _) ?turncj ?donecj
            case hoffcj => exact List.forall_mem_cons.mpr ⟨by (first | k_ne | exact Nat.ne_of_lt (by omega) | exact Nat.ne_of_gt (by omega)), hRb.off⟩
            case turncj =>
              intro kc tc usc nnc tlc ownc restc uc hpc tkc hkc hIc hRc kRc tRc oRc Ftc Ntc
              have hD4 := kRc _ (.tail _ hD3)
              have hs4 := kRc _ (.tail _ hs3)
              have hs5 := toL hs4
              have offc := hRc.off
              (try k_fold)
              repeat' (first | (k_unfold; (try dsimp only)) | walk1 | (dsimp only; walk1) | (leave1; (try dsimp only)) | fail "no step")
              · skip
                unfold Stop
                (rename News _ _ _ _ => Nnd)
                (rename Fr _ _ _ _ => Fnd)
                refine' loop_list (vs := us.toList) [Str.ofString "width"] (fun k us tl => Grow usc.toList (((sibsTo b 32).take k).flatMap (lawOne b i sc wo named (ka : Int) (Int.fdiv kb 2) (Int.fmod kb 2) (kc : Int))) us tl) rfl Fnd Nnd (by (repeat (first | exact List.Mem.head _ | refine List.Mem.tail _ ?_))) keep0 ?hoffdj hs5 (Grow.start _) ?turndj ?donedj
                case hoffdj => exact hRc.off
                case turndj =>
                  intro kd vd usd nnd tld ownd restd ud hd9 tkd hvd hId hRd kRd tRd oRd Ftd Ntd
                  obtain ⟨nd, td, ed, hnd⟩ := IntsAre.at hI1 kd vd hvd
                  subst ed
                  have hD5 := kRd _ hD4
                  have offd := hRd.off
                  have z1 := hIa.lenr lawMod_len
                  have z2 := hIb.lenr lawBits_len
                  have z3 := hIc.lenr lawRm_len
                  have z4 := hId.lent (fun _ => lawOne_len)
                  have z5 : usd.size ≤ 10000 := by simp only [List.length_nil, Array.length_toList, sibsTo, List.length_map, List.length_range, List.length_cons] at z1 z2 z3 z4; omega
                  clear z1 z2 z3 z4
                  have hsib : 0 ≤ nd ∧ nd < 256 ∨ (kc : Int) ≠ 4 := .inl (sibs_bound hb hnd)
                  (try k_fold)
                  repeat' (first | (k_unfold; (try dsimp only)) | walk1 | (dsimp only; walk1) | (leave1; (try dsimp only)) | fail "no step")
                  all_goals (try dsimp only [PostM])
                  all_goals first
                    | (refine' EndM.intro [] (by assumption) (by assumption) ?hf9j ?hr9j no_sub no_lt2 ?hm9j (hId.take hnd (Grow.nil_of (by first | exact one_no3 (by assumption) | exact one_no2 (by assumption) | exact one_no1 (by assumption)))); (case hf9j => (repeat (first | exact List.Mem.head _ | refine List.Mem.tail _ ?_))); (case hr9j => (first | (intro p hp; (repeat refine List.Mem.tail _ ?_); exact hp) | (intro p hp; ((repeat refine List.Mem.tail _ ?_); first | exact hp | (refine List.mem_append.mpr (.inl ?_); ((repeat refine List.Mem.tail _ ?_); first | exact hp | (refine List.mem_append.mpr (.inl ?_); ((repeat refine List.Mem.tail _ ?_); first | exact hp)) | (refine List.mem_append.mpr (.inr ?_); ((repeat refine List.Mem.tail _ ?_); first | exact hp)))) | (refine List.mem_append.mpr (.inr ?_); ((repeat refine List.Mem.tail _ ?_); first | exact hp | (refine List.mem_append.mpr (.inl ?_); ((repeat refine List.Mem.tail _ ?_); first | exact hp)) | (refine List.mem_append.mpr (.inr ?_); ((repeat refine List.Mem.tail _ ?_); first | exact hp)))))) | kcj_all)); (case hm9j => (intro z h1 h2; have h3 := h2; simp at h3; (repeat (first | exact rfl | refine' tm1 (by first | exact h1 | exact h3 | exact h3.1 | exact h3.2.1 | exact h3.2.2.1 | exact h3.2.2.2.1 | exact h3.2.2.2.2.1 | exact h3.2.2.2.2.2.1 | exact h3.2 | exact h3.2.2 | exact h3.2.2.2 | exact h3.2.2.2.2 | exact h3.2.2.2.2.2 | simp [h3]) ?_ | refine' tm2 (by first | exact h2 | simp [h3]) ?_)))))
                    | (refine' EndM.intro [(_, tup [.int _ _, .int _ _, .int _ _, .int _ _, .int _ _, .int _ _] _)] (by assumption) (by assumption) ?hf9j ?hr9j ?ha9j ?ho9j ?hm9j (hId.take hnd (Grow.one_of (one_yes (by assumption) (by assumption) (by assumption)))); (case hf9j => (repeat (first | exact List.Mem.head _ | refine List.Mem.tail _ ?_))); (case hr9j => (first | (intro p hp; (repeat refine List.Mem.tail _ ?_); exact hp) | (intro p hp; ((repeat refine List.Mem.tail _ ?_); first | exact hp | (refine List.mem_append.mpr (.inl ?_); ((repeat refine List.Mem.tail _ ?_); first | exact hp | (refine List.mem_append.mpr (.inl ?_); ((repeat refine List.Mem.tail _ ?_); first | exact hp)) | (refine List.mem_append.mpr (.inr ?_); ((repeat refine List.Mem.tail _ ?_); first | exact hp)))) | (refine List.mem_append.mpr (.inr ?_); ((repeat refine List.Mem.tail _ ?_); first | exact hp | (refine List.mem_append.mpr (.inl ?_); ((repeat refine List.Mem.tail _ ?_); first | exact hp)) | (refine List.mem_append.mpr (.inr ?_); ((repeat refine List.Mem.tail _ ?_); first | exact hp)))))) | kcj_all)); (case ha9j => (intro p hp; rw [List.mem_singleton.mp hp]; (repeat (first | exact List.Mem.head _ | refine List.Mem.tail _ ?_)))); (case ho9j => exact ho_one (by omega) (by (first | assumption | exact lt_from (by assumption) (by intro q hq; ((repeat refine List.Mem.tail _ ?_); first | exact hq | (refine List.mem_append.mpr (.inl ?_); ((repeat refine List.Mem.tail _ ?_); first | exact hq | (refine List.mem_append.mpr (.inl ?_); ((repeat refine List.Mem.tail _ ?_); first | exact hq)) | (refine List.mem_append.mpr (.inr ?_); ((repeat refine List.Mem.tail _ ?_); first | exact hq)))) | (refine List.mem_append.mpr (.inr ?_); ((repeat refine List.Mem.tail _ ?_); first | exact hq | (refine List.mem_append.mpr (.inl ?_); ((repeat refine List.Mem.tail _ ?_); first | exact hq)) | (refine List.mem_append.mpr (.inr ?_); ((repeat refine List.Mem.tail _ ?_); first | exact hq)))))) | exact allLt_of (by assumption) | exact (by assumption : _ ∧ AllLt _ _).2 | exact (by assumption : _ ∧ _ ∧ AllLt _ _).2.2 | exact (by assumption : _ ∧ _ ∧ _ ∧ AllLt _ _).2.2.2 | exact (by assumption : _ ∧ _ ∧ _ ∧ _ ∧ AllLt _ _).2.2.2.2))); (case hm9j => (intro z h1 h2; have h3 := h2; simp at h3; (repeat (first | exact rfl | refine' tm1 (by first | exact h1 | exact h3 | exact h3.1 | exact h3.2.1 | exact h3.2.2.1 | exact h3.2.2.2.1 | exact h3.2.2.2.2.1 | exact h3.2.2.2.2.2.1 | exact h3.2 | exact h3.2.2 | exact h3.2.2.2 | exact h3.2.2.2.2 | exact h3.2.2.2.2.2 | simp [h3]) ?_ | refine' tm2 (by first | exact h2 | simp [h3]) ?_)))))
                case donedj =>
                  intro us nn tl u h tk hI hord Fd Nd
                  (try k_fold)
                  repeat' (first | (k_unfold; (try dsimp only)) | walk1 | (dsimp only; walk1) | (leave1; (try dsimp only)) | fail "no step")
                  all_goals (try dsimp only [PostM])
                  all_goals (refine' EndM.intro tl (by assumption) (by assumption) ?hf9j ?hr9j ?ha9j ?ho9j ?hm9j (Grow.range hIc (hI.rm4 (by rw [Array.length_toList]; exact sibs_size hI1) (by assumption))); (case hf9j => (repeat (first | exact List.Mem.head _ | refine List.Mem.tail _ ?_))); (case hr9j => exact fun p hp => .tail _ (List.mem_append.mpr (.inr hp))); (case ha9j => exact fun p hp => .tail _ (List.mem_append.mpr (.inl hp))); (case ho9j => exact fun q hq => ⟨(hord q hq).1, fun p hp => (hord q hq).2 p hp⟩); (case hm9j => (intro z h1 h2; have h3 := h2; simp at h3; (repeat (first | exact rfl | refine' tm1 (by first | exact h1 | exact h3 | exact h3.1 | exact h3.2.1 | exact h3.2.2.1 | exact h3.2.2.2.1 | exact h3.2.2.2.2.1 | exact h3.2.2.2.2.2.1 | exact h3.2 | exact h3.2.2 | exact h3.2.2.2 | exact h3.2.2.2.2 | exact h3.2.2.2.2.2 | simp [h3]) ?_ | refine' tm2 (by first | exact h2 | simp [h3]) ?_)))))
              · skip
                unfold Stop
                (rename News _ _ _ _ => Nnd)
                (rename Fr _ _ _ _ => Fnd)
                refine' loop_list (vs := [_]) [Str.ofString "width"] (fun k us tl => Grow usc.toList ((([-1]).take k).flatMap (lawOne b i sc wo named (ka : Int) (Int.fdiv kb 2) (Int.fmod kb 2) (kc : Int))) us tl) rfl Fnd Nnd (by (repeat (first | exact List.Mem.head _ | refine List.Mem.tail _ ?_))) keep1 ?hoffdj (.head _) (Grow.start _) ?turndj ?donedj
                case hoffdj => exact List.forall_mem_cons.mpr ⟨by (first | k_ne | exact Nat.ne_of_lt (by omega) | exact Nat.ne_of_gt (by omega)), hRc.off⟩
                case turndj =>
                  intro kd vd usd nnd tld ownd restd ud hd9 tkd hvd hId hRd kRd tRd oRd Ftd Ntd
                  obtain ⟨nd, td, ed, hnd⟩ := IntsAre.at (IntsAre.cons _ _ .nil) kd vd hvd
                  subst ed
                  have hD5 := kRd _ (.tail _ hD4)
                  have offd := hRd.off
                  have z1 := hIa.lenr lawMod_len
                  have z2 := hIb.lenr lawBits_len
                  have z3 := hIc.lenr lawRm_len
                  have z4 := hId.lent (fun _ => lawOne_len)
                  have z5 : usd.size ≤ 10000 := by simp only [List.length_nil, Array.length_toList, sibsTo, List.length_map, List.length_range, List.length_cons] at z1 z2 z3 z4; omega
                  clear z1 z2 z3 z4
                  have hsib : 0 ≤ nd ∧ nd < 256 ∨ (kc : Int) ≠ 4 := .inr (by assumption)
                  (try k_fold)
                  repeat' (first | (k_unfold; (try dsimp only)) | walk1 | (dsimp only; walk1) | (leave1; (try dsimp only)) | fail "no step")
                  all_goals (try dsimp only [PostM])
                  all_goals first
                    | (refine' EndM.intro [] (by assumption) (by assumption) ?hf9j ?hr9j no_sub no_lt2 ?hm9j (hId.take hnd (Grow.nil_of (by first | exact one_no3 (by assumption) | exact one_no2 (by assumption) | exact one_no1 (by assumption)))); (case hf9j => (repeat (first | exact List.Mem.head _ | refine List.Mem.tail _ ?_))); (case hr9j => (first | (intro p hp; (repeat refine List.Mem.tail _ ?_); exact hp) | (intro p hp; ((repeat refine List.Mem.tail _ ?_); first | exact hp | (refine List.mem_append.mpr (.inl ?_); ((repeat refine List.Mem.tail _ ?_); first | exact hp | (refine List.mem_append.mpr (.inl ?_); ((repeat refine List.Mem.tail _ ?_); first | exact hp)) | (refine List.mem_append.mpr (.inr ?_); ((repeat refine List.Mem.tail _ ?_); first | exact hp)))) | (refine List.mem_append.mpr (.inr ?_); ((repeat refine List.Mem.tail _ ?_); first | exact hp | (refine List.mem_append.mpr (.inl ?_); ((repeat refine List.Mem.tail _ ?_); first | exact hp)) | (refine List.mem_append.mpr (.inr ?_); ((repeat refine List.Mem.tail _ ?_); first | exact hp)))))) | kcj_all)); (case hm9j => (intro z h1 h2; have h3 := h2; simp at h3; (repeat (first | exact rfl | refine' tm1 (by first | exact h1 | exact h3 | exact h3.1 | exact h3.2.1 | exact h3.2.2.1 | exact h3.2.2.2.1 | exact h3.2.2.2.2.1 | exact h3.2.2.2.2.2.1 | exact h3.2 | exact h3.2.2 | exact h3.2.2.2 | exact h3.2.2.2.2 | exact h3.2.2.2.2.2 | simp [h3]) ?_ | refine' tm2 (by first | exact h2 | simp [h3]) ?_)))))
                    | (refine' EndM.intro [(_, tup [.int _ _, .int _ _, .int _ _, .int _ _, .int _ _, .int _ _] _)] (by assumption) (by assumption) ?hf9j ?hr9j ?ha9j ?ho9j ?hm9j (hId.take hnd (Grow.one_of (one_yes (by assumption) (by assumption) (by assumption)))); (case hf9j => (repeat (first | exact List.Mem.head _ | refine List.Mem.tail _ ?_))); (case hr9j => (first | (intro p hp; (repeat refine List.Mem.tail _ ?_); exact hp) | (intro p hp; ((repeat refine List.Mem.tail _ ?_); first | exact hp | (refine List.mem_append.mpr (.inl ?_); ((repeat refine List.Mem.tail _ ?_); first | exact hp | (refine List.mem_append.mpr (.inl ?_); ((repeat refine List.Mem.tail _ ?_); first | exact hp)) | (refine List.mem_append.mpr (.inr ?_); ((repeat refine List.Mem.tail _ ?_); first | exact hp)))) | (refine List.mem_append.mpr (.inr ?_); ((repeat refine List.Mem.tail _ ?_); first | exact hp | (refine List.mem_append.mpr (.inl ?_); ((repeat refine List.Mem.tail _ ?_); first | exact hp)) | (refine List.mem_append.mpr (.inr ?_); ((repeat refine List.Mem.tail _ ?_); first | exact hp)))))) | kcj_all)); (case ha9j => (intro p hp; rw [List.mem_singleton.mp hp]; (repeat (first | exact List.Mem.head _ | refine List.Mem.tail _ ?_)))); (case ho9j => exact ho_one (by omega) (by (first | assumption | exact lt_from (by assumption) (by intro q hq; ((repeat refine List.Mem.tail _ ?_); first | exact hq | (refine List.mem_append.mpr (.inl ?_); ((repeat refine List.Mem.tail _ ?_); first | exact hq | (refine List.mem_append.mpr (.inl ?_); ((repeat refine List.Mem.tail _ ?_); first | exact hq)) | (refine List.mem_append.mpr (.inr ?_); ((repeat refine List.Mem.tail _ ?_); first | exact hq)))) | (refine List.mem_append.mpr (.inr ?_); ((repeat refine List.Mem.tail _ ?_); first | exact hq | (refine List.mem_append.mpr (.inl ?_); ((repeat refine List.Mem.tail _ ?_); first | exact hq)) | (refine List.mem_append.mpr (.inr ?_); ((repeat refine List.Mem.tail _ ?_); first | exact hq)))))) | exact allLt_of (by assumption) | exact (by assumption : _ ∧ AllLt _ _).2 | exact (by assumption : _ ∧ _ ∧ AllLt _ _).2.2 | exact (by assumption : _ ∧ _ ∧ _ ∧ AllLt _ _).2.2.2 | exact (by assumption : _ ∧ _ ∧ _ ∧ _ ∧ AllLt _ _).2.2.2.2))); (case hm9j => (intro z h1 h2; have h3 := h2; simp at h3; (repeat (first | exact rfl | refine' tm1 (by first | exact h1 | exact h3 | exact h3.1 | exact h3.2.1 | exact h3.2.2.1 | exact h3.2.2.2.1 | exact h3.2.2.2.2.1 | exact h3.2.2.2.2.2.1 | exact h3.2 | exact h3.2.2 | exact h3.2.2.2 | exact h3.2.2.2.2 | exact h3.2.2.2.2.2 | simp [h3]) ?_ | refine' tm2 (by first | exact h2 | simp [h3]) ?_)))))
                case donedj =>
                  intro us nn tl u h tk hI hord Fd Nd
                  (try k_fold)
                  repeat' (first | (k_unfold; (try dsimp only)) | walk1 | (dsimp only; walk1) | (leave1; (try dsimp only)) | fail "no step")
                  all_goals (try dsimp only [PostM])
                  all_goals (refine' EndM.intro tl (by assumption) (by assumption) ?hf9j ?hr9j ?ha9j ?ho9j ?hm9j (Grow.range hIc (hI.rm1 (by assumption))); (case hf9j => (repeat (first | exact List.Mem.head _ | refine List.Mem.tail _ ?_))); (case hr9j => exact fun p hp => .tail _ (List.mem_append.mpr (.inr (.tail _ hp)))); (case ha9j => exact fun p hp => .tail _ (List.mem_append.mpr (.inl hp))); (case ho9j => exact fun q hq => ⟨(hord q hq).1, fun p hp => (hord q hq).2 p (.tail _ hp)⟩); (case hm9j => (intro z h1 h2; have h3 := h2; simp at h3; (repeat (first | exact rfl | refine' tm1 (by first | exact h1 | exact h3 | exact h3.1 | exact h3.2.1 | exact h3.2.2.1 | exact h3.2.2.2.1 | exact h3.2.2.2.2.1 | exact h3.2.2.2.2.2.1 | exact h3.2 | exact h3.2.2 | exact h3.2.2.2 | exact h3.2.2.2.2 | exact h3.2.2.2.2.2 | simp [h3]) ?_ | refine' tm2 (by first | exact h2 | simp [h3]) ?_)))))
            case donecj =>
              intro us nn tl u h tk hI hord Fd Nd
              (try k_fold)
              repeat' (first | (k_unfold; (try dsimp only)) | walk1 | (dsimp only; walk1) | (leave1; (try dsimp only)) | fail "no step")
              all_goals (try dsimp only [PostM])
              all_goals (refine' EndM.intro tl (by assumption) (by assumption) ?hf9j ?hr9j ?ha9j ?ho9j ?hm9j (Grow.range hIb (hI)); (case hf9j => (repeat (first | exact List.Mem.head _ | refine List.Mem.tail _ ?_))); (case hr9j => exact fun p hp => .tail _ (List.mem_append.mpr (.inr (.tail _ hp)))); (case ha9j => exact fun p hp => .tail _ (List.mem_append.mpr (.inl hp))); (case ho9j => exact fun q hq => ⟨(hord q hq).1, fun p hp => (hord q hq).2 p (.tail _ hp)⟩); (case hm9j => (intro z h1 h2; have h3 := h2; simp at h3; (repeat (first | exact rfl | refine' tm1 (by first | exact h1 | exact h3 | exact h3.1 | exact h3.2.1 | exact h3.2.2.1 | exact h3.2.2.2.1 | exact h3.2.2.2.2.1 | exact h3.2.2.2.2.2.1 | exact h3.2 | exact h3.2.2 | exact h3.2.2.2 | exact h3.2.2.2.2 | exact h3.2.2.2.2.2 | simp [h3]) ?_ | refine' tm2 (by first | exact h2 | simp [h3]) ?_)))))
          case donebj =>
            intro us nn tl u h tk hI hord Fd Nd
            (try k_fold)
            repeat' (first | (k_unfold; (try dsimp only)) | walk1 | (dsimp only; walk1) | (leave1; (try dsimp only)) | fail "no step")
            all_goals (try dsimp only [PostM])
            all_goals (refine' EndM.intro tl (by assumption) (by assumption) ?hf9j ?hr9j ?ha9j ?ho9j ?hm9j (Grow.range hIa (hI)); (case hf9j => (repeat (first | exact List.Mem.head _ | refine List.Mem.tail _ ?_))); (case hr9j => exact fun p hp => .tail _ (List.mem_append.mpr (.inr hp))); (case ha9j => exact fun p hp => .tail _ (List.mem_append.mpr (.inl hp))); (case ho9j => exact fun q hq => ⟨(hord q hq).1, fun p hp => (hord q hq).2 p hp⟩); (case hm9j => (intro z h1 h2; have h3 := h2; simp at h3; (repeat (first | exact rfl | refine' tm1 (by first | exact h1 | exact h3 | exact h3.1 | exact h3.2.1 | exact h3.2.2.1 | exact h3.2.2.2.1 | exact h3.2.2.2.2.1 | exact h3.2.2.2.2.2.1 | exact h3.2 | exact h3.2.2 | exact h3.2.2.2 | exact h3.2.2.2.2 | exact h3.2.2.2.2.2 | simp [h3]) ?_ | refine' tm2 (by first | exact h2 | simp [h3]) ?_)))))
        case doneaj =>
          intro us nn tl u h tk hI hord Fd Nd
          (try k_fold)
          repeat' (first | (k_unfold; (try dsimp only)) | walk1 | (dsimp only; walk1) | (leave1; (try dsimp only)) | fail "no step")
          all_goals exact fin_grown ⟨_, us, nn, tl, rfl, rfl, hI.all⟩ (by assumption) (by assumption) (by exact fun p hp => .tail _ (.tail _ hp)) (by exact ktn_ltOf (by (first | assumption | exact lt_from (by assumption) (by intro q hq; ((repeat refine List.Mem.tail _ ?_); first | exact hq | (refine List.mem_append.mpr (.inl ?_); ((repeat refine List.Mem.tail _ ?_); first | exact hq | (refine List.mem_append.mpr (.inl ?_); ((repeat refine List.Mem.tail _ ?_); first | exact hq)) | (refine List.mem_append.mpr (.inr ?_); ((repeat refine List.Mem.tail _ ?_); first | exact hq)))) | (refine List.mem_append.mpr (.inr ?_); ((repeat refine List.Mem.tail _ ?_); first | exact hq | (refine List.mem_append.mpr (.inl ?_); ((repeat refine List.Mem.tail _ ?_); first | exact hq)) | (refine List.mem_append.mpr (.inr ?_); ((repeat refine List.Mem.tail _ ?_); first | exact hq)))))) | exact allLt_of (by assumption) | exact (by assumption : _ ∧ AllLt _ _).2 | exact (by assumption : _ ∧ _ ∧ AllLt _ _).2.2 | exact (by assumption : _ ∧ _ ∧ _ ∧ AllLt _ _).2.2.2 | exact (by assumption : _ ∧ _ ∧ _ ∧ _ ∧ AllLt _ _).2.2.2.2))) hord
    )
  have q_len6 := pin X0 T0 (C := fun K V TL w => C_len6 K V TL w) (by
    as_aux_lemma =>
      (repeat (rename _ => zz; clear zz))
      (rename World => w)
      with_unfolding_all intro news v sh hf
      obtain @⟨D, _, t1, t2, t3, t4, t5, t6, n, hD⟩ := hf
      try (unfold Clls; k_fill; fail)
      k_dflt (refine' clls_enter ?k1j ?k2j ?k3j ?k4j ?k5j ?k6j ?k7j ?k8j ?_; (case k1j => k_is); (case k2j => k_is); (case k3j => exact fun _ => BindsTo.of_eq rfl); (case k4j => exact locs rfl); (case k5j => decide); (case k6j => exact rfl); (case k7j => exact rfl); (case k8j => exact rfl))
      intro mean mg mb dp un gd outer A₀ base h₀ L gs dw os h₁ tk E m B F X N T hG hd hu hE
      (try dsimp only)
      (try k_fold)
      repeat' (first | (k_unfold; (try dsimp only)) | walk1 | (dsimp only; walk1) | (leave1; (try dsimp only)) | fail "no step")
      all_goals (refine fin_i (by assumption) (by assumption) (by (first | (intro p hp; (repeat refine List.Mem.tail _ ?_); exact hp) | (intro p hp; ((repeat refine List.Mem.tail _ ?_); first | exact hp | (refine List.mem_append.mpr (.inl ?_); ((repeat refine List.Mem.tail _ ?_); first | exact hp | (refine List.mem_append.mpr (.inl ?_); ((repeat refine List.Mem.tail _ ?_); first | exact hp)) | (refine List.mem_append.mpr (.inr ?_); ((repeat refine List.Mem.tail _ ?_); first | exact hp)))) | (refine List.mem_append.mpr (.inr ?_); ((repeat refine List.Mem.tail _ ?_); first | exact hp | (refine List.mem_append.mpr (.inl ?_); ((repeat refine List.Mem.tail _ ?_); first | exact hp)) | (refine List.mem_append.mpr (.inr ?_); ((repeat refine List.Mem.tail _ ?_); first | exact hp)))))) | kcj_all)) ?_; unfold shLen; (try simp only [decide_eq_true_eq]); (try ((repeat' split) <;> first | rfl | omega)))
    )
  have q_isaddr := pin X0 T0 (C := fun K V TL w => C_isaddr K V TL w) (by
    as_aux_lemma =>
      (repeat (rename _ => zz; clear zz))
      (rename World => w)
      with_unfolding_all intro news v b h hb
      cases h
      · omega
      · omega
      · skip
        try (unfold Clls; k_fill; fail)
        k_dflt (refine' clls_enter ?k1j ?k2j ?k3j ?k4j ?k5j ?k6j ?k7j ?k8j ?_; (case k1j => k_is); (case k2j => k_is); (case k3j => exact fun _ => BindsTo.of_eq rfl); (case k4j => exact locs rfl); (case k5j => decide); (case k6j => exact rfl); (case k7j => exact rfl); (case k8j => exact rfl))
        intro mean mg mb dp un gd outer A₀ base h₀ L gs dw os h₁ tk E m B F X N T hG hd hu hE
        (try dsimp only)
        (try k_fold)
        repeat' (first | (k_unfold; (try dsimp only)) | walk1 | (dsimp only; walk1) | (leave1; (try dsimp only)) | fail "no step")
        all_goals (refine fin_b (by assumption) (by assumption) (by (first | (intro p hp; (repeat refine List.Mem.tail _ ?_); exact hp) | (intro p hp; ((repeat refine List.Mem.tail _ ?_); first | exact hp | (refine List.mem_append.mpr (.inl ?_); ((repeat refine List.Mem.tail _ ?_); first | exact hp | (refine List.mem_append.mpr (.inl ?_); ((repeat refine List.Mem.tail _ ?_); first | exact hp)) | (refine List.mem_append.mpr (.inr ?_); ((repeat refine List.Mem.tail _ ?_); first | exact hp)))) | (refine List.mem_append.mpr (.inr ?_); ((repeat refine List.Mem.tail _ ?_); first | exact hp | (refine List.mem_append.mpr (.inl ?_); ((repeat refine List.Mem.tail _ ?_); first | exact hp)) | (refine List.mem_append.mpr (.inr ?_); ((repeat refine List.Mem.tail _ ?_); first | exact hp)))))) | kcj_all)) ?_; rfl)
    )
  have q_ckbase := pin X0 T0 (C := fun K V TL w => C_ckbase K V TL w) (by
    as_aux_lemma =>
      revert q_isaddr
      (repeat (rename _ => zz; clear zz))
      (rename World => w)
      intro q_isaddr
      with_unfolding_all intro news v b i sc wo sz sg nm hm hbi
      obtain @⟨x, dx, v1, v2, _, _, _, _, _, _, _, k0, k1, k2, k3, k4, k5, k6, k7, t0, t3, t4, t5, t6, t7, n, hx, hd1, hb, hi⟩ := hm
      have hb2 := hb
      have hi2 := hi
      cases hb
      · skip
        try (unfold Clls; k_fill; fail)
        k_dflt (refine' clls_enter ?k1j ?k2j ?k3j ?k4j ?k5j ?k6j ?k7j ?k8j ?_; (case k1j => k_is); (case k2j => k_is); (case k3j => exact fun _ => BindsTo.of_eq rfl); (case k4j => exact locs rfl); (case k5j => decide); (case k6j => exact rfl); (case k7j => exact rfl); (case k8j => exact rfl))
        intro mean mg mb dp un gd outer A₀ base h₀ L gs dw os h₁ tk E m B F X N T hG hd hu hE
        (try dsimp only)
        (try k_fold)
        repeat' (first | (k_unfold; (try dsimp only)) | walk1 | (dsimp only; walk1) | (leave1; (try dsimp only)) | fail "no step")
        all_goals exact fin_n (by assumption) (by assumption) (by (first | (intro p hp; (repeat refine List.Mem.tail _ ?_); exact hp) | (intro p hp; ((repeat refine List.Mem.tail _ ?_); first | exact hp | (refine List.mem_append.mpr (.inl ?_); ((repeat refine List.Mem.tail _ ?_); first | exact hp | (refine List.mem_append.mpr (.inl ?_); ((repeat refine List.Mem.tail _ ?_); first | exact hp)) | (refine List.mem_append.mpr (.inr ?_); ((repeat refine List.Mem.tail _ ?_); first | exact hp)))) | (refine List.mem_append.mpr (.inr ?_); ((repeat refine List.Mem.tail _ ?_); first | exact hp | (refine List.mem_append.mpr (.inl ?_); ((repeat refine List.Mem.tail _ ?_); first | exact hp)) | (refine List.mem_append.mpr (.inr ?_); ((repeat refine List.Mem.tail _ ?_); first | exact hp)))))) | kcj_all)) rfl
      · have e := hbi rfl
        subst e
        have e2 : v2 = .none := by cases hi <;> first | rfl | omega
        subst e2
        try (unfold Clls; k_fill; fail)
        k_dflt (refine' clls_enter ?k1j ?k2j ?k3j ?k4j ?k5j ?k6j ?k7j ?k8j ?_; (case k1j => k_is); (case k2j => k_is); (case k3j => exact fun _ => BindsTo.of_eq rfl); (case k4j => exact locs rfl); (case k5j => decide); (case k6j => exact rfl); (case k7j => exact rfl); (case k8j => exact rfl))
        intro mean mg mb dp un gd outer A₀ base h₀ L gs dw os h₁ tk E m B F X N T hG hd hu hE
        (try dsimp only)
        (try k_fold)
        repeat' (first | (k_unfold; (try dsimp only)) | walk1 | (dsimp only; walk1) | (leave1; (try dsimp only)) | fail "no step")
        all_goals exact fin_n (by assumption) (by assumption) (by (first | (intro p hp; (repeat refine List.Mem.tail _ ?_); exact hp) | (intro p hp; ((repeat refine List.Mem.tail _ ?_); first | exact hp | (refine List.mem_append.mpr (.inl ?_); ((repeat refine List.Mem.tail _ ?_); first | exact hp | (refine List.mem_append.mpr (.inl ?_); ((repeat refine List.Mem.tail _ ?_); first | exact hp)) | (refine List.mem_append.mpr (.inr ?_); ((repeat refine List.Mem.tail _ ?_); first | exact hp)))) | (refine List.mem_append.mpr (.inr ?_); ((repeat refine List.Mem.tail _ ?_); first | exact hp | (refine List.mem_append.mpr (.inl ?_); ((repeat refine List.Mem.tail _ ?_); first | exact hp)) | (refine List.mem_append.mpr (.inr ?_); ((repeat refine List.Mem.tail _ ?_); first | exact hp)))))) | kcj_all)) rfl
      · skip
        try (unfold Clls; k_fill; fail)
        k_dflt (refine' clls_enter ?k1j ?k2j ?k3j ?k4j ?k5j ?k6j ?k7j ?k8j ?_; (case k1j => k_is); (case k2j => k_is); (case k3j => exact fun _ => BindsTo.of_eq rfl); (case k4j => exact locs rfl); (case k5j => decide); (case k6j => exact rfl); (case k7j => exact rfl); (case k8j => exact rfl))
        intro mean mg mb dp un gd outer A₀ base h₀ L gs dw os h₁ tk E m B F X N T hG hd hu hE
        (try dsimp only)
        (try k_fold)
        repeat' (first | (k_unfold; (try dsimp only)) | walk1 | (dsimp only; walk1) | (leave1; (try dsimp only)) | fail "no step")
        all_goals exact fin_n (by assumption) (by assumption) (by (first | (intro p hp; (repeat refine List.Mem.tail _ ?_); exact hp) | (intro p hp; ((repeat refine List.Mem.tail _ ?_); first | exact hp | (refine List.mem_append.mpr (.inl ?_); ((repeat refine List.Mem.tail _ ?_); first | exact hp | (refine List.mem_append.mpr (.inl ?_); ((repeat refine List.Mem.tail _ ?_); first | exact hp)) | (refine List.mem_append.mpr (.inr ?_); ((repeat refine List.Mem.tail _ ?_); first | exact hp)))) | (refine List.mem_append.mpr (.inr ?_); ((repeat refine List.Mem.tail _ ?_); first | exact hp | (refine List.mem_append.mpr (.inl ?_); ((repeat refine List.Mem.tail _ ?_); first | exact hp)) | (refine List.mem_append.mpr (.inr ?_); ((repeat refine List.Mem.tail _ ?_); first | exact hp)))))) | kcj_all)) rfl
    )
  have q_ckidx := pin X0 T0 (C := fun K V TL w => C_ckidx K V TL w) (by
    as_aux_lemma =>
      revert q_isaddr
      (repeat (rename _ => zz; clear zz))
      (rename World => w)
      intro q_isaddr
      with_unfolding_all intro news v b i sc wo sz sg nm hm hi16 hi4 hsc
      obtain @⟨x, dx, v1, v2, _, _, _, _, _, _, _, k0, k1, k2, k3, k4, k5, k6, k7, t0, t3, t4, t5, t6, t7, n, hx, hd1, hb, hi⟩ := hm
      have hi2 := hi
      cases hi
      · have e : sc = 1 := by omega
        subst e
        try (unfold Clls; k_fill; fail)
        k_dflt (refine' clls_enter ?k1j ?k2j ?k3j ?k4j ?k5j ?k6j ?k7j ?k8j ?_; (case k1j => k_is); (case k2j => k_is); (case k3j => exact fun _ => BindsTo.of_eq rfl); (case k4j => exact locs rfl); (case k5j => decide); (case k6j => exact rfl); (case k7j => exact rfl); (case k8j => exact rfl))
        intro mean mg mb dp un gd outer A₀ base h₀ L gs dw os h₁ tk E m B F X N T hG hd hu hE
        (try dsimp only)
        (try k_fold)
        repeat' (first | (k_unfold; (try dsimp only)) | walk1 | (dsimp only; walk1) | (leave1; (try dsimp only)) | fail "no step")
        all_goals exact fin_n (by assumption) (by assumption) (by (first | (intro p hp; (repeat refine List.Mem.tail _ ?_); exact hp) | (intro p hp; ((repeat refine List.Mem.tail _ ?_); first | exact hp | (refine List.mem_append.mpr (.inl ?_); ((repeat refine List.Mem.tail _ ?_); first | exact hp | (refine List.mem_append.mpr (.inl ?_); ((repeat refine List.Mem.tail _ ?_); first | exact hp)) | (refine List.mem_append.mpr (.inr ?_); ((repeat refine List.Mem.tail _ ?_); first | exact hp)))) | (refine List.mem_append.mpr (.inr ?_); ((repeat refine List.Mem.tail _ ?_); first | exact hp | (refine List.mem_append.mpr (.inl ?_); ((repeat refine List.Mem.tail _ ?_); first | exact hp)) | (refine List.mem_append.mpr (.inr ?_); ((repeat refine List.Mem.tail _ ?_); first | exact hp)))))) | kcj_all)) rfl
      · exact absurd rfl hi16
      · have e : sc = 1 ∨ sc = 2 ∨ sc = 4 ∨ sc = 8 := by omega
        have e3 : 0 ≤ i ∧ i ≤ 15 := ⟨by assumption, by assumption⟩
        try (unfold Clls; k_fill; fail)
        k_dflt (refine' clls_enter ?k1j ?k2j ?k3j ?k4j ?k5j ?k6j ?k7j ?k8j ?_; (case k1j => k_is); (case k2j => k_is); (case k3j => exact fun _ => BindsTo.of_eq rfl); (case k4j => exact locs rfl); (case k5j => decide); (case k6j => exact rfl); (case k7j => exact rfl); (case k8j => exact rfl))
        intro mean mg mb dp un gd outer A₀ base h₀ L gs dw os h₁ tk E m B F X N T hG hd hu hE
        (try dsimp only)
        (try k_fold)
        repeat' (first | (k_unfold; (try dsimp only)) | walk1 | (dsimp only; walk1) | (leave1; (try dsimp only)) | fail "no step")
        all_goals exact fin_n (by assumption) (by assumption) (by (first | (intro p hp; (repeat refine List.Mem.tail _ ?_); exact hp) | (intro p hp; ((repeat refine List.Mem.tail _ ?_); first | exact hp | (refine List.mem_append.mpr (.inl ?_); ((repeat refine List.Mem.tail _ ?_); first | exact hp | (refine List.mem_append.mpr (.inl ?_); ((repeat refine List.Mem.tail _ ?_); first | exact hp)) | (refine List.mem_append.mpr (.inr ?_); ((repeat refine List.Mem.tail _ ?_); first | exact hp)))) | (refine List.mem_append.mpr (.inr ?_); ((repeat refine List.Mem.tail _ ?_); first | exact hp | (refine List.mem_append.mpr (.inl ?_); ((repeat refine List.Mem.tail _ ?_); first | exact hp)) | (refine List.mem_append.mpr (.inr ?_); ((repeat refine List.Mem.tail _ ?_); first | exact hp)))))) | kcj_all)) rfl
    )
  have q_fits32 := pin X0 T0 (C := fun K V TL w => C_fits32 K V TL w) (by
    as_aux_lemma =>
      (repeat (rename _ => zz; clear zz))
      (rename World => w)
      with_unfolding_all intro news n t1 t2
      have e1 : (2:Int) ^ ((32:Int) - 1).toNat = 2147483648 := by decide
      try (unfold Clls; k_fill; fail)
      k_dflt (refine' clls_enter ?k1j ?k2j ?k3j ?k4j ?k5j ?k6j ?k7j ?k8j ?_; (case k1j => k_is); (case k2j => k_is); (case k3j => exact fun _ => BindsTo.of_eq rfl); (case k4j => exact locs rfl); (case k5j => decide); (case k6j => exact rfl); (case k7j => exact rfl); (case k8j => exact rfl))
      intro mean mg mb dp un gd outer A₀ base h₀ L gs dw os h₁ tk E m B F X N T hG hd hu hE
      (try dsimp only)
      (try k_fold)
      repeat' (first | (k_unfold; (try dsimp only)) | walk1 | (dsimp only; walk1) | (leave1; (try dsimp only)) | fail "no step")
      all_goals (refine fin_b (by assumption) (by assumption) (by (first | (intro p hp; (repeat refine List.Mem.tail _ ?_); exact hp) | (intro p hp; ((repeat refine List.Mem.tail _ ?_); first | exact hp | (refine List.mem_append.mpr (.inl ?_); ((repeat refine List.Mem.tail _ ?_); first | exact hp | (refine List.mem_append.mpr (.inl ?_); ((repeat refine List.Mem.tail _ ?_); first | exact hp)) | (refine List.mem_append.mpr (.inr ?_); ((repeat refine List.Mem.tail _ ?_); first | exact hp)))) | (refine List.mem_append.mpr (.inr ?_); ((repeat refine List.Mem.tail _ ?_); first | exact hp | (refine List.mem_append.mpr (.inl ?_); ((repeat refine List.Mem.tail _ ?_); first | exact hp)) | (refine List.mem_append.mpr (.inr ?_); ((repeat refine List.Mem.tail _ ?_); first | exact hp)))))) | kcj_all)) ?_; first | (simp [*]; done) | (rw [Bool.eq_iff_iff]; (try simp only []); (try ((repeat' split) <;> (try simp only [decide_eq_true_eq, beq_iff_eq, beq_eq_false_iff_ne, bne_iff_ne, ne_eq, Bool.and_eq_true, Bool.or_eq_true, Bool.not_eq_true', Bool.not_eq_false', Bool.and_eq_false_iff, Bool.or_eq_false_iff, decide_eq_false_iff_not, Bool.not_eq_true, Bool.false_eq_true, Bool.true_eq_false, gt_iff_lt, ge_iff_le, true_iff, iff_true, false_iff, iff_false, eq_self_iff_true]) <;> first | done | omega))))
    )
  have q_ckmem := pin X0 T0 (C := fun K V TL w => C_ckmem K V TL w) (by
    as_aux_lemma =>
      revert q_ckbase q_ckidx q_fits32
      (repeat (rename _ => zz; clear zz))
      (rename World => w)
      intro q_ckbase q_ckidx q_fits32
      with_unfolding_all intro news v b i sc wo nm hm hbi hi16 hi4 hsc hwo
      have hm2 := hm
      obtain @⟨x, dx, v1, v2, _, _, _, _, _, _, _, k0, k1, k2, k3, k4, k5, k6, k7, t0, t3, t4, t5, t6, t7, n, hx, hd1, hb, hi⟩ := hm
      try (unfold Clls; k_fill; fail)
      k_dflt (refine' clls_enter ?k1j ?k2j ?k3j ?k4j ?k5j ?k6j ?k7j ?k8j ?_; (case k1j => k_is); (case k2j => k_is); (case k3j => exact fun _ => BindsTo.of_eq rfl); (case k4j => exact locs rfl); (case k5j => decide); (case k6j => exact rfl); (case k7j => exact rfl); (case k8j => exact rfl))
      intro mean mg mb dp un gd outer A₀ base h₀ L gs dw os h₁ tk E m B F X N T hG hd hu hE
      (try dsimp only)
      (try k_fold)
      repeat' (first | (k_unfold; (try dsimp only)) | walk1 | (dsimp only; walk1) | (leave1; (try dsimp only)) | fail "no step")
      all_goals exact fin_u (by assumption) (by assumption) (by (first | (intro p hp; (repeat refine List.Mem.tail _ ?_); exact hp) | (intro p hp; ((repeat refine List.Mem.tail _ ?_); first | exact hp | (refine List.mem_append.mpr (.inl ?_); ((repeat refine List.Mem.tail _ ?_); first | exact hp | (refine List.mem_append.mpr (.inl ?_); ((repeat refine List.Mem.tail _ ?_); first | exact hp)) | (refine List.mem_append.mpr (.inr ?_); ((repeat refine List.Mem.tail _ ?_); first | exact hp)))) | (refine List.mem_append.mpr (.inr ?_); ((repeat refine List.Mem.tail _ ?_); first | exact hp | (refine List.mem_append.mpr (.inl ?_); ((repeat refine List.Mem.tail _ ?_); first | exact hp)) | (refine List.mem_append.mpr (.inr ?_); ((repeat refine List.Mem.tail _ ?_); first | exact hp)))))) | kcj_all))
    )
  have q_memsh := pin X0 T0 (C := fun K V TL w => C_memsh K V TL w) (by
    as_aux_lemma =>
      revert q_ckmem q_sibfor q_extbit q_mkshape q_based q_hasneed
      (repeat (rename _ => zz; clear zz))
      (rename World => w)
      intro q_ckmem q_sibfor q_extbit q_mkshape q_based q_hasneed
      with_unfolding_all intro news v b i sc wo nm hm hp hwo
      have os : Own 2 := ⟨trivial⟩
      obtain ⟨hbi, hi16, hi4, hsc, hsc2⟩ := hp.all
      have hq : (-1 : Int) ≠ 16 := by decide
      have hm2 := hm
      obtain @⟨x, dx, v1, v2, _, _, _, _, _, _, _, k0, k1, k2, k3, k4, k5, k6, k7, t0, t3, t4, t5, t6, t7, n, hx, hd1, hb, hi⟩ := hm
      have hb2 := hb
      have hi2 := hi
      cases hb
      · skip
        unfold Cllt
        k_fill
        intro mean mg mb dp un gd cn cs a ccd cl outer A₀ base h₀ L m s Q E ps g B F X N U tab T hG hk hd hu hret
        have hC := CodeHd.keeps hG (Below.stays B)
        replace hG : CodeHd base 426 422 := hG
        refine wpAny_call ?_
        k_dflt ktr_enter
        repeat' (first | (k_unfold; (try dsimp only)) | walk1 | (dsimp only; walk1) | (leave1; (try dsimp only)) | fail "no step")
        all_goals (refine' back_same [(_, W.listOf #[.ref _] _), (_, instObj 367 _), (_, shDict6 _ _ _ _ _ _ _ _ _ _ _ _ _ _ _ _ _ _ _ _)] U tab hret ⟨[⟨_, _, _, _, _, _⟩], ⟨_, _, _, _, rfl, rfl, .cons (.mk (s := ⟨_, _, _, _, _, _⟩) (.head _) (.tail _ (.head _))) .nil⟩, ?pp9j, pw_one⟩ (by assumption) (by assumption) ?ms9j ?ss9j ?ll9j; (case ms9j => exact List.forall_mem_cons.mpr ⟨(by (repeat (first | exact List.Mem.head _ | refine List.Mem.tail _ ?_))), List.forall_mem_cons.mpr ⟨(by (repeat (first | exact List.Mem.head _ | refine List.Mem.tail _ ?_))), List.forall_mem_cons.mpr ⟨(by (repeat (first | exact List.Mem.head _ | refine List.Mem.tail _ ?_))), fun _ h => nomatch h⟩⟩⟩); (case ss9j => (first | (intro p hp; (repeat refine List.Mem.tail _ ?_); exact hp) | (intro p hp; ((repeat refine List.Mem.tail _ ?_); first | exact hp | (refine List.mem_append.mpr (.inl ?_); ((repeat refine List.Mem.tail _ ?_); first | exact hp | (refine List.mem_append.mpr (.inl ?_); ((repeat refine List.Mem.tail _ ?_); first | exact hp)) | (refine List.mem_append.mpr (.inr ?_); ((repeat refine List.Mem.tail _ ?_); first | exact hp)))) | (refine List.mem_append.mpr (.inr ?_); ((repeat refine List.Mem.tail _ ?_); first | exact hp | (refine List.mem_append.mpr (.inl ?_); ((repeat refine List.Mem.tail _ ?_); first | exact hp)) | (refine List.mem_append.mpr (.inr ?_); ((repeat refine List.Mem.tail _ ?_); first | exact hp)))))) | kcj_all)); (case ll9j => exact lt_three (by (first | assumption | exact lt_from (by assumption) (by intro q hq; ((repeat refine List.Mem.tail _ ?_); first | exact hq | (refine List.mem_append.mpr (.inl ?_); ((repeat refine List.Mem.tail _ ?_); first | exact hq | (refine List.mem_append.mpr (.inl ?_); ((repeat refine List.Mem.tail _ ?_); first | exact hq)) | (refine List.mem_append.mpr (.inr ?_); ((repeat refine List.Mem.tail _ ?_); first | exact hq)))) | (refine List.mem_append.mpr (.inr ?_); ((repeat refine List.Mem.tail _ ?_); first | exact hq | (refine List.mem_append.mpr (.inl ?_); ((repeat refine List.Mem.tail _ ?_); first | exact hq)) | (refine List.mem_append.mpr (.inr ?_); ((repeat refine List.Mem.tail _ ?_); first | exact hq)))))) | exact allLt_of (by assumption) | exact (by assumption : _ ∧ AllLt _ _).2 | exact (by assumption : _ ∧ _ ∧ AllLt _ _).2.2 | exact (by assumption : _ ∧ _ ∧ _ ∧ AllLt _ _).2.2.2 | exact (by assumption : _ ∧ _ ∧ _ ∧ _ ∧ AllLt _ _).2.2.2.2)) (by (first | assumption | exact lt_from (by assumption) (by intro q hq; ((repeat refine List.Mem.tail _ ?_); first | exact hq | (refine List.mem_append.mpr (.inl ?_); ((repeat refine List.Mem.tail _ ?_); first | exact hq | (refine List.mem_append.mpr (.inl ?_); ((repeat refine List.Mem.tail _ ?_); first | exact hq)) | (refine List.mem_append.mpr (.inr ?_); ((repeat refine List.Mem.tail _ ?_); first | exact hq)))) | (refine List.mem_append.mpr (.inr ?_); ((repeat refine List.Mem.tail _ ?_); first | exact hq | (refine List.mem_append.mpr (.inl ?_); ((repeat refine List.Mem.tail _ ?_); first | exact hq)) | (refine List.mem_append.mpr (.inr ?_); ((repeat refine List.Mem.tail _ ?_); first | exact hq)))))) | exact allLt_of (by assumption) | exact (by assumption : _ ∧ AllLt _ _).2 | exact (by assumption : _ ∧ _ ∧ AllLt _ _).2.2 | exact (by assumption : _ ∧ _ ∧ _ ∧ AllLt _ _).2.2.2 | exact (by assumption : _ ∧ _ ∧ _ ∧ _ ∧ AllLt _ _).2.2.2.2)) (by (first | assumption | exact lt_from (by assumption) (by intro q hq; ((repeat refine List.Mem.tail _ ?_); first | exact hq | (refine List.mem_append.mpr (.inl ?_); ((repeat refine List.Mem.tail _ ?_); first | exact hq | (refine List.mem_append.mpr (.inl ?_); ((repeat refine List.Mem.tail _ ?_); first | exact hq)) | (refine List.mem_append.mpr (.inr ?_); ((repeat refine List.Mem.tail _ ?_); first | exact hq)))) | (refine List.mem_append.mpr (.inr ?_); ((repeat refine List.Mem.tail _ ?_); first | exact hq | (refine List.mem_append.mpr (.inl ?_); ((repeat refine List.Mem.tail _ ?_); first | exact hq)) | (refine List.mem_append.mpr (.inr ?_); ((repeat refine List.Mem.tail _ ?_); first | exact hq)))))) | exact allLt_of (by assumption) | exact (by assumption : _ ∧ AllLt _ _).2 | exact (by assumption : _ ∧ _ ∧ AllLt _ _).2.2 | exact (by assumption : _ ∧ _ ∧ _ ∧ AllLt _ _).2.2.2 | exact (by assumption : _ ∧ _ ∧ _ ∧ _ ∧ AllLt _ _).2.2.2.2))); (case pp9j => exact List.Perm.refl _))
      · skip
        unfold Cllt
        k_fill
        intro mean mg mb dp un gd cn cs a ccd cl outer A₀ base h₀ L m s Q E ps g B F X N U tab T hG hk hd hu hret
        have hC := CodeHd.keeps hG (Below.stays B)
        replace hG : CodeHd base 426 422 := hG
        refine wpAny_call ?_
        k_dflt ktr_enter
        repeat' (first | (k_unfold; (try dsimp only)) | walk1 | (dsimp only; walk1) | (leave1; (try dsimp only)) | fail "no step")
        all_goals (refine' back_same [(_, W.listOf #[.ref _] _), (_, instObj 367 _), (_, shDict6 _ _ _ _ _ _ _ _ _ _ _ _ _ _ _ _ _ _ _ _)] U tab hret ⟨[⟨_, _, _, _, _, _⟩], ⟨_, _, _, _, rfl, rfl, .cons (.mk (s := ⟨_, _, _, _, _, _⟩) (.head _) (.tail _ (.head _))) .nil⟩, ?pp9j, pw_one⟩ (by assumption) (by assumption) ?ms9j ?ss9j ?ll9j; (case ms9j => exact List.forall_mem_cons.mpr ⟨(by (repeat (first | exact List.Mem.head _ | refine List.Mem.tail _ ?_))), List.forall_mem_cons.mpr ⟨(by (repeat (first | exact List.Mem.head _ | refine List.Mem.tail _ ?_))), List.forall_mem_cons.mpr ⟨(by (repeat (first | exact List.Mem.head _ | refine List.Mem.tail _ ?_))), fun _ h => nomatch h⟩⟩⟩); (case ss9j => (first | (intro p hp; (repeat refine List.Mem.tail _ ?_); exact hp) | (intro p hp; ((repeat refine List.Mem.tail _ ?_); first | exact hp | (refine List.mem_append.mpr (.inl ?_); ((repeat refine List.Mem.tail _ ?_); first | exact hp | (refine List.mem_append.mpr (.inl ?_); ((repeat refine List.Mem.tail _ ?_); first | exact hp)) | (refine List.mem_append.mpr (.inr ?_); ((repeat refine List.Mem.tail _ ?_); first | exact hp)))) | (refine List.mem_append.mpr (.inr ?_); ((repeat refine List.Mem.tail _ ?_); first | exact hp | (refine List.mem_append.mpr (.inl ?_); ((repeat refine List.Mem.tail _ ?_); first | exact hp)) | (refine List.mem_append.mpr (.inr ?_); ((repeat refine List.Mem.tail _ ?_); first | exact hp)))))) | kcj_all)); (case ll9j => exact lt_three (by (first | assumption | exact lt_from (by assumption) (by intro q hq; ((repeat refine List.Mem.tail _ ?_); first | exact hq | (refine List.mem_append.mpr (.inl ?_); ((repeat refine List.Mem.tail _ ?_); first | exact hq | (refine List.mem_append.mpr (.inl ?_); ((repeat refine List.Mem.tail _ ?_); first | exact hq)) | (refine List.mem_append.mpr (.inr ?_); ((repeat refine List.Mem.tail _ ?_); first | exact hq)))) | (refine List.mem_append.mpr (.inr ?_); ((repeat refine List.Mem.tail _ ?_); first | exact hq | (refine List.mem_append.mpr (.inl ?_); ((repeat refine List.Mem.tail _ ?_); first | exact hq)) | (refine List.mem_append.mpr (.inr ?_); ((repeat refine List.Mem.tail _ ?_); first | exact hq)))))) | exact allLt_of (by assumption) | exact (by assumption : _ ∧ AllLt _ _).2 | exact (by assumption : _ ∧ _ ∧ AllLt _ _).2.2 | exact (by assumption : _ ∧ _ ∧ _ ∧ AllLt _ _).2.2.2 | exact (by assumption : _ ∧ _ ∧ _ ∧ _ ∧ AllLt _ _).2.2.2.2)) (by (first | assumption | exact lt_from (by assumption) (by intro q hq; ((repeat refine List.Mem.tail _ ?_); first | exact hq | (refine List.mem_append.mpr (.inl ?_); ((repeat refine List.Mem.tail _ ?_); first | exact hq | (refine List.mem_append.mpr (.inl ?_); ((repeat refine List.Mem.tail _ ?_); first | exact hq)) | (refine List.mem_append.mpr (.inr ?_); ((repeat refine List.Mem.tail _ ?_); first | exact hq)))) | (refine List.mem_append.mpr (.inr ?_); ((repeat refine List.Mem.tail _ ?_); first | exact hq | (refine List.mem_append.mpr (.inl ?_); ((repeat refine List.Mem.tail _ ?_); first | exact hq)) | (refine List.mem_append.mpr (.inr ?_); ((repeat refine List.Mem.tail _ ?_); first | exact hq)))))) | exact allLt_of (by assumption) | exact (by assumption : _ ∧ AllLt _ _).2 | exact (by assumption : _ ∧ _ ∧ AllLt _ _).2.2 | exact (by assumption : _ ∧ _ ∧ _ ∧ AllLt _ _).2.2.2 | exact (by assumption : _ ∧ _ ∧ _ ∧ _ ∧ AllLt _ _).2.2.2.2)) (by (first | assumption | exact lt_from (by assumption) (by intro q hq; ((repeat refine List.Mem.tail _ ?_); first | exact hq | (refine List.mem_append.mpr (.inl ?_); ((repeat refine List.Mem.tail _ ?_); first | exact hq | (refine List.mem_append.mpr (.inl ?_); ((repeat refine List.Mem.tail _ ?_); first | exact hq)) | (refine List.mem_append.mpr (.inr ?_); ((repeat refine List.Mem.tail _ ?_); first | exact hq)))) | (refine List.mem_append.mpr (.inr ?_); ((repeat refine List.Mem.tail _ ?_); first | exact hq | (refine List.mem_append.mpr (.inl ?_); ((repeat refine List.Mem.tail _ ?_); first | exact hq)) | (refine List.mem_append.mpr (.inr ?_); ((repeat refine List.Mem.tail _ ?_); first | exact hq)))))) | exact allLt_of (by assumption) | exact (by assumption : _ ∧ AllLt _ _).2 | exact (by assumption : _ ∧ _ ∧ AllLt _ _).2.2 | exact (by assumption : _ ∧ _ ∧ _ ∧ AllLt _ _).2.2.2 | exact (by assumption : _ ∧ _ ∧ _ ∧ _ ∧ AllLt _ _).2.2.2.2))); (case pp9j => exact List.Perm.refl _))
      · skip
        unfold Cllt
        k_fill
        intro mean mg mb dp un gd cn cs a ccd cl outer A₀ base h₀ L m s Q E ps g B F X N U tab T hG hk hd hu hret
        have hC := CodeHd.keeps hG (Below.stays B)
        replace hG : CodeHd base 426 422 := hG
        refine wpAny_call ?_
        k_dflt ktr_enter
        repeat' (first | (k_unfold; (try dsimp only)) | walk1 | (dsimp only; walk1) | (leave1; (try dsimp only)) | fail "no step")
        unfold Stop
        (rename News _ _ _ _ => Nn)
        (rename Fr _ _ _ _ => Fn)
        (rename ShAll _ _ _ _ => i9)
        (rename (∀ q, q ∈ news → ∀ p, p ∈ _ → _) => l9)
        have lt9 := l9 _ (upd_mem U)
        have U9 := upd_app U (fun p hp => Nat.ne_of_gt (lt9 p hp))
        refine' lam_make Fn Nn ?tt9j ?cc9j rfl U9 (tab.cast (by kernel_rfl) rfl ?ss9j) rfl ?_
        case tt9j => k_asm
        case cc9j => kn_code
        case ss9j => exact fun p hp => .tail _ (List.mem_append.mpr (.inr hp))
        intro f9 c9 oc9 vs99 t9 ct9 ps9 h99 tk99 ad9 Fl Nl hcl hdl hvl tab9 lo9 lf9
        (try dsimp only at Nl hcl tab9)
        obtain ⟨R9, Nm, sub9, subt9⟩ := regroup Nl
        have hcl2 := sub9 _ hcl
        clear Nl Nn Fn
        (try k_fold)
        repeat' (first | (k_unfold; (try dsimp only)) | walk1 | (dsimp only; walk1) | (leave1; (try dsimp only)) | fail "no step")
        unfold Stop
        (rename Fr _ _ _ _ => Fm)
        have kb9 := based_keys (i := i) (sc := sc) (wo := wo) (named := nm != Str.ofString "") ⟨by assumption, by assumption⟩
        refine' sortedSh Fm Nm (News.isList Nm (toL (.tail _ (.head _)))) i9 (fun p hp => .tail _ (.tail _ (subt9 p hp))) kb9.1 kb9.2.1 kb9.2.2 (ksk_s1 _ _) (fun x => ksk_l1 _ _) (fun x => ksk_t1 _ _) ?turn9j ?fin9j
        case turn9j =>
          intro v8 sh8 led8 h8 tk8 hin8 hv8 hsub8 Fk Nk
          have hf8 := hsub8 _ (.head _)
          have hc8 := hsub8 _ hcl2
          have hv9 := hv8
          obtain @⟨x8, dx8, _, k1, k2, k3, k4, k5, k6, t1, t2, t3, t4, t5, t6, n8, hx8, hdx8⟩ := hv8
          repeat' (first | (k_unfold; (try dsimp only)) | walk1 | (dsimp only; walk1) | (leave1; (try dsimp only)) | fail "no step")
          all_goals exact key_end (by assumption) (by assumption) (by (repeat (first | exact List.Mem.head _ | refine List.Mem.tail _ ?_))) (by (first | (intro p hp; (repeat refine List.Mem.tail _ ?_); exact hp) | (intro p hp; ((repeat refine List.Mem.tail _ ?_); first | exact hp | (refine List.mem_append.mpr (.inl ?_); ((repeat refine List.Mem.tail _ ?_); first | exact hp | (refine List.mem_append.mpr (.inl ?_); ((repeat refine List.Mem.tail _ ?_); first | exact hp)) | (refine List.mem_append.mpr (.inr ?_); ((repeat refine List.Mem.tail _ ?_); first | exact hp)))) | (refine List.mem_append.mpr (.inr ?_); ((repeat refine List.Mem.tail _ ?_); first | exact hp | (refine List.mem_append.mpr (.inl ?_); ((repeat refine List.Mem.tail _ ?_); first | exact hp)) | (refine List.mem_append.mpr (.inr ?_); ((repeat refine List.Mem.tail _ ?_); first | exact hp)))))) | kcj_all)) (by unfold shLen; simp only [decide_eq_true_eq]) rfl
        case fin9j =>
          intro D8 h8 tk8 cc8 vs8 ss8 F8 N8 l8 hA8 pm8 pw8
          repeat' (first | (k_unfold; (try dsimp only)) | walk1 | (dsimp only; walk1) | (leave1; (try dsimp only)) | fail "no step")
          all_goals exact back_grow _ U hret (by assumption) (by assumption) sub9 tab9 lo9 l9 l8 ⟨ss8, ⟨_, _, _, _, rfl, rfl, hA8.mono (fun p hp => List.mem_append.mpr (.inr (.tail _ hp)))⟩, (by unfold memSh; rw [if_neg (by omega), if_neg (by omega)]; exact pm8), pw8⟩
    )
  have q_least := pin X0 T0 (C := fun K V TL w => C_least K V TL w) (by
    as_aux_lemma =>
      revert q_memsh
      (repeat (rename _ => zz; clear zz))
      (rename World => w)
      intro q_memsh
      with_unfolding_all intro news v b i sc wo nm hm hp hwo
      have os8 : Own 8 := ⟨trivial⟩
      unfold Cllt
      k_fill
      intro mean mg mb dp un gd cn cs a ccd cl outer A₀ base h₀ L m s Q E ps g B F X N U tab T hG hk hd hu hret
      have hC := CodeHd.keeps hG (Below.stays B)
      replace hG : CodeHd base 426 422 := hG
      refine wpAny_call ?_
      k_dflt ktr_enter
      repeat' (first | (k_unfold; (try dsimp only)) | walk1 | (dsimp only; walk1) | (leave1; (try dsimp only)) | fail "no step")
      unfold Stop
      k_dflt (refine' cllt_use (C_memsh.use q_memsh ?hm9j ?hp9j ?hw9j) ?k1j ?k2j ?k3j ?k4j ?kuj ?ktj ?k5j (by assumption) ?k6j ?k7j ?k8j ?_; (case k1j => k_asm); (case k2j => k_asm); (case k3j => k_asm); (case k4j => k_asm); (case kuj => assumption); (case ktj => assumption); (case k5j => k_asm); (case hm9j => first | assumption | exact MemIn.mono (by assumption) (by walk_at "own sub")); (case hp9j => assumption); (case hw9j => assumption); (case k6j => first | exact rfl | assumption); (case k7j => walk_at "own roomy"); (case k8j => walk_at "own roomy"))
      rintro v9 add9 h9 tk9 ps9 ⟨ss9, ⟨q9, vs9, n9, tl9, e9, f9, i9⟩, pm9, pw9⟩ tb9 F9 N9 l9; subst e9; subst f9; obtain ⟨v0, r0, sh0, sr0, x1, x2, hv0⟩ := first_of i9 pm9 (memSh_pos (by assumption)); subst x1; subst x2
      (try dsimp only [List.cons_append, List.nil_append] at N9)
      (try dsimp only)
      (try k_sweep)
      (try k_fold)
      repeat' (first | (k_unfold; (try dsimp only)) | walk1 | (dsimp only; walk1) | (leave1; (try dsimp only)) | fail "no step")
      all_goals (refine' hret _ _ _ _ _ ⟨_, _, ?pm9j, ?pw9j, ?sh9j⟩ ?tb9j ?F9j ?N9j ?l9j; (case l9j => assumption); (case tb9j => assumption); (case F9j => assumption); (case N9j => assumption); (case pm9j => assumption); (case pw9j => assumption); (case sh9j => exact ShIn.mono (by assumption) (fun p hp => .tail _ hp)))
    )
  have q_right := pin X0 T0 (C := fun K V TL w => C_right K V TL w) (by
    as_aux_lemma =>
      revert q_lmem q_all q_len6 q_needless q_means q_word q_told q_memsh q_least
      (repeat (rename _ => zz; clear zz))
      (rename World => w)
      intro q_lmem q_all q_len6 q_needless q_means q_word q_told q_memsh q_least
      with_unfolding_all intro news D b i sc wo nm t1 t2 t3 t4 t5 n hD hp hwo
      have os : Own 6 := ⟨trivial⟩
      have hb9 : -1 ≤ b ∧ b ≤ 16 := ⟨hp.1, hp.2.1⟩
      have hi9 : -1 ≤ i ∧ i ≤ 15 := by have h9 := hp; unfold PlOk at h9; omega
      unfold Cllx
      k_fill
      intro mean mg mb dp un gd cn cs a ccd cl outer A₀ base h₀ L m s Q E ps g B F X N U tab T hG hk hd hu hret
      have hC := CodeHd.keeps hG (Below.stays B)
      replace hG : CodeHd base 426 422 := hG
      refine wpAny_call ?_
      k_dflt (refine' code_defC ?k1j ?k2j ?k3j ?k4j ?k5j ?kAj ?kFj ?kKj ?k6j ?k7j ?k8j ?k9j ?kBj ?kDj ?_ ?c2j ?c3j ?c4j; (case kAj => exact rfl); (case kFj => exact rfl); (case kKj => assumption); (case k1j => k_asm); (case k2j => k_asm); (case k3j => k_asm); (case k4j => k_asm); (case k5j => k_asm); (case k6j => k_is); (case k7j => k_is); (case k8j => ktr_room); (case k9j => exact BindsTo.of_eq rfl); (case kBj => exact rfl); (case kDj => decide +kernel); (case c2j => exact rfl); (case c3j => exact rfl); (case c4j => exact rfl); k_whole; intro g2 L2 h2 tk2 cells2 FG2 F2 N2 Y2 B2 X2 T2 l2; (try k_lt l2); (obtain ⟨oc1, oc2, hE2, dc1, dc2⟩ := PyProof.Rows.CellsAre.two Y2); subst hE2; clear Y2; (try simp only [List.cons_append, List.nil_append] at N2); (try dsimp only); (try k_fold))
      repeat' (first | (k_unfold; (try dsimp only)) | walk1 | (dsimp only; walk1) | (leave1; (try dsimp only)) | fail "no step")
      unfold Stop
      have dw9 : oc2.data = .cell (some (.int wo t4)) := dc2
      have dt9 : oc1.data = .cell none := dc1
      clear dc1 dc2
      (rename News _ _ _ _ => Nn)
      (rename Fr _ _ _ _ => Fn)
      (rename MemIn _ _ _ _ _ _ _ _ _ _ => g9)
      (rename FAll _ _ _ => i9)
      (rename (∀ q, q ∈ _ → ∀ p, p ∈ _ → _) => l8)
      revert l8
      (rename (∀ q, q ∈ _ → ∀ p, p ∈ _ → _) => l7)
      intro l8
      have tm := upd_mem U
      obtain ⟨R0, N0, U0, k0, kc0, k2⟩ := apart2 Nn (by (first | ((repeat (first | exact List.Mem.head _ | refine List.Mem.tail _ ?_)); done) | ((repeat refine List.Mem.tail _ ?_); first | assumption | (refine List.mem_append.mpr (.inl ?_); (first | ((repeat (first | exact List.Mem.head _ | refine List.Mem.tail _ ?_)); done) | ((repeat refine List.Mem.tail _ ?_); first | assumption | (refine List.mem_append.mpr (.inl ?_); (first | ((repeat (first | exact List.Mem.head _ | refine List.Mem.tail _ ?_)); done) | ((repeat refine List.Mem.tail _ ?_); first | assumption))) | (refine List.mem_append.mpr (.inr ?_); (first | ((repeat (first | exact List.Mem.head _ | refine List.Mem.tail _ ?_)); done) | ((repeat refine List.Mem.tail _ ?_); first | assumption)))))) | (refine List.mem_append.mpr (.inr ?_); (first | ((repeat (first | exact List.Mem.head _ | refine List.Mem.tail _ ?_)); done) | ((repeat refine List.Mem.tail _ ?_); first | assumption | (refine List.mem_append.mpr (.inl ?_); (first | ((repeat (first | exact List.Mem.head _ | refine List.Mem.tail _ ?_)); done) | ((repeat refine List.Mem.tail _ ?_); first | assumption))) | (refine List.mem_append.mpr (.inr ?_); (first | ((repeat (first | exact List.Mem.head _ | refine List.Mem.tail _ ?_)); done) | ((repeat refine List.Mem.tail _ ?_); first | assumption)))))))))
      have ne7 := fun p hp => Nat.ne_of_gt (l7 _ (by (first | ((repeat (first | exact List.Mem.head _ | refine List.Mem.tail _ ?_)); done) | ((repeat refine List.Mem.tail _ ?_); first | assumption | (refine List.mem_append.mpr (.inl ?_); (first | ((repeat (first | exact List.Mem.head _ | refine List.Mem.tail _ ?_)); done) | ((repeat refine List.Mem.tail _ ?_); first | assumption | (refine List.mem_append.mpr (.inl ?_); (first | ((repeat (first | exact List.Mem.head _ | refine List.Mem.tail _ ?_)); done) | ((repeat refine List.Mem.tail _ ?_); first | assumption))) | (refine List.mem_append.mpr (.inr ?_); (first | ((repeat (first | exact List.Mem.head _ | refine List.Mem.tail _ ?_)); done) | ((repeat refine List.Mem.tail _ ?_); first | assumption)))))) | (refine List.mem_append.mpr (.inr ?_); (first | ((repeat (first | exact List.Mem.head _ | refine List.Mem.tail _ ?_)); done) | ((repeat refine List.Mem.tail _ ?_); first | assumption | (refine List.mem_append.mpr (.inl ?_); (first | ((repeat (first | exact List.Mem.head _ | refine List.Mem.tail _ ?_)); done) | ((repeat refine List.Mem.tail _ ?_); first | assumption))) | (refine List.mem_append.mpr (.inr ?_); (first | ((repeat (first | exact List.Mem.head _ | refine List.Mem.tail _ ?_)); done) | ((repeat refine List.Mem.tail _ ?_); first | assumption))))))))) p hp : @LT.lt Nat _ (422, tabObj ps).1 _)
      have ne8 := fun p hp => Nat.ne_of_gt (l8 _ (by (first | ((repeat (first | exact List.Mem.head _ | refine List.Mem.tail _ ?_)); done) | ((repeat refine List.Mem.tail _ ?_); first | assumption | (refine List.mem_append.mpr (.inl ?_); (first | ((repeat (first | exact List.Mem.head _ | refine List.Mem.tail _ ?_)); done) | ((repeat refine List.Mem.tail _ ?_); first | assumption | (refine List.mem_append.mpr (.inl ?_); (first | ((repeat (first | exact List.Mem.head _ | refine List.Mem.tail _ ?_)); done) | ((repeat refine List.Mem.tail _ ?_); first | assumption))) | (refine List.mem_append.mpr (.inr ?_); (first | ((repeat (first | exact List.Mem.head _ | refine List.Mem.tail _ ?_)); done) | ((repeat refine List.Mem.tail _ ?_); first | assumption)))))) | (refine List.mem_append.mpr (.inr ?_); (first | ((repeat (first | exact List.Mem.head _ | refine List.Mem.tail _ ?_)); done) | ((repeat refine List.Mem.tail _ ?_); first | assumption | (refine List.mem_append.mpr (.inl ?_); (first | ((repeat (first | exact List.Mem.head _ | refine List.Mem.tail _ ?_)); done) | ((repeat refine List.Mem.tail _ ?_); first | assumption))) | (refine List.mem_append.mpr (.inr ?_); (first | ((repeat (first | exact List.Mem.head _ | refine List.Mem.tail _ ?_)); done) | ((repeat refine List.Mem.tail _ ?_); first | assumption))))))))) p hp : @LT.lt Nat _ (422, tabObj ps).1 _)
      have gM := g9.mono (fun p hp => k0 p (by (first | ((repeat (first | exact hp | refine List.Mem.tail _ ?_)); done) | ((repeat refine List.Mem.tail _ ?_); first | exact hp | (refine List.mem_append.mpr (.inl ?_); (first | ((repeat (first | exact hp | refine List.Mem.tail _ ?_)); done) | ((repeat refine List.Mem.tail _ ?_); first | exact hp | (refine List.mem_append.mpr (.inl ?_); (first | ((repeat (first | exact hp | refine List.Mem.tail _ ?_)); done) | ((repeat refine List.Mem.tail _ ?_); first | exact hp | (refine List.mem_append.mpr (.inl ?_); (first | ((repeat (first | exact hp | refine List.Mem.tail _ ?_)); done) | ((repeat refine List.Mem.tail _ ?_); first | exact hp))) | (refine List.mem_append.mpr (.inr ?_); (first | ((repeat (first | exact hp | refine List.Mem.tail _ ?_)); done) | ((repeat refine List.Mem.tail _ ?_); first | exact hp)))))) | (refine List.mem_append.mpr (.inr ?_); (first | ((repeat (first | exact hp | refine List.Mem.tail _ ?_)); done) | ((repeat refine List.Mem.tail _ ?_); first | exact hp | (refine List.mem_append.mpr (.inl ?_); (first | ((repeat (first | exact hp | refine List.Mem.tail _ ?_)); done) | ((repeat refine List.Mem.tail _ ?_); first | exact hp))) | (refine List.mem_append.mpr (.inr ?_); (first | ((repeat (first | exact hp | refine List.Mem.tail _ ?_)); done) | ((repeat refine List.Mem.tail _ ?_); first | exact hp))))))))) | (refine List.mem_append.mpr (.inr ?_); (first | ((repeat (first | exact hp | refine List.Mem.tail _ ?_)); done) | ((repeat refine List.Mem.tail _ ?_); first | exact hp | (refine List.mem_append.mpr (.inl ?_); (first | ((repeat (first | exact hp | refine List.Mem.tail _ ?_)); done) | ((repeat refine List.Mem.tail _ ?_); first | exact hp | (refine List.mem_append.mpr (.inl ?_); (first | ((repeat (first | exact hp | refine List.Mem.tail _ ?_)); done) | ((repeat refine List.Mem.tail _ ?_); first | exact hp))) | (refine List.mem_append.mpr (.inr ?_); (first | ((repeat (first | exact hp | refine List.Mem.tail _ ?_)); done) | ((repeat refine List.Mem.tail _ ?_); first | exact hp)))))) | (refine List.mem_append.mpr (.inr ?_); (first | ((repeat (first | exact hp | refine List.Mem.tail _ ?_)); done) | ((repeat refine List.Mem.tail _ ?_); first | exact hp | (refine List.mem_append.mpr (.inl ?_); (first | ((repeat (first | exact hp | refine List.Mem.tail _ ?_)); done) | ((repeat refine List.Mem.tail _ ?_); first | exact hp))) | (refine List.mem_append.mpr (.inr ?_); (first | ((repeat (first | exact hp | refine List.Mem.tail _ ?_)); done) | ((repeat refine List.Mem.tail _ ?_); first | exact hp)))))))))))) (ne7 p hp))
      have gF := i9.mono (fun p hp => k0 p (by (first | ((repeat (first | exact hp | refine List.Mem.tail _ ?_)); done) | ((repeat refine List.Mem.tail _ ?_); first | exact hp | (refine List.mem_append.mpr (.inl ?_); (first | ((repeat (first | exact hp | refine List.Mem.tail _ ?_)); done) | ((repeat refine List.Mem.tail _ ?_); first | exact hp | (refine List.mem_append.mpr (.inl ?_); (first | ((repeat (first | exact hp | refine List.Mem.tail _ ?_)); done) | ((repeat refine List.Mem.tail _ ?_); first | exact hp | (refine List.mem_append.mpr (.inl ?_); (first | ((repeat (first | exact hp | refine List.Mem.tail _ ?_)); done) | ((repeat refine List.Mem.tail _ ?_); first | exact hp))) | (refine List.mem_append.mpr (.inr ?_); (first | ((repeat (first | exact hp | refine List.Mem.tail _ ?_)); done) | ((repeat refine List.Mem.tail _ ?_); first | exact hp)))))) | (refine List.mem_append.mpr (.inr ?_); (first | ((repeat (first | exact hp | refine List.Mem.tail _ ?_)); done) | ((repeat refine List.Mem.tail _ ?_); first | exact hp | (refine List.mem_append.mpr (.inl ?_); (first | ((repeat (first | exact hp | refine List.Mem.tail _ ?_)); done) | ((repeat refine List.Mem.tail _ ?_); first | exact hp))) | (refine List.mem_append.mpr (.inr ?_); (first | ((repeat (first | exact hp | refine List.Mem.tail _ ?_)); done) | ((repeat refine List.Mem.tail _ ?_); first | exact hp))))))))) | (refine List.mem_append.mpr (.inr ?_); (first | ((repeat (first | exact hp | refine List.Mem.tail _ ?_)); done) | ((repeat refine List.Mem.tail _ ?_); first | exact hp | (refine List.mem_append.mpr (.inl ?_); (first | ((repeat (first | exact hp | refine List.Mem.tail _ ?_)); done) | ((repeat refine List.Mem.tail _ ?_); first | exact hp | (refine List.mem_append.mpr (.inl ?_); (first | ((repeat (first | exact hp | refine List.Mem.tail _ ?_)); done) | ((repeat refine List.Mem.tail _ ?_); first | exact hp))) | (refine List.mem_append.mpr (.inr ?_); (first | ((repeat (first | exact hp | refine List.Mem.tail _ ?_)); done) | ((repeat refine List.Mem.tail _ ?_); first | exact hp)))))) | (refine List.mem_append.mpr (.inr ?_); (first | ((repeat (first | exact hp | refine List.Mem.tail _ ?_)); done) | ((repeat refine List.Mem.tail _ ?_); first | exact hp | (refine List.mem_append.mpr (.inl ?_); (first | ((repeat (first | exact hp | refine List.Mem.tail _ ?_)); done) | ((repeat refine List.Mem.tail _ ?_); first | exact hp))) | (refine List.mem_append.mpr (.inr ?_); (first | ((repeat (first | exact hp | refine List.Mem.tail _ ?_)); done) | ((repeat refine List.Mem.tail _ ?_); first | exact hp)))))))))))) (ne8 p (.tail _ hp)))
      have gq := k0 _ (.head _) (ne8 _ (.head _))
      have gD := kc0 (D, tup [.int b t1, .int i t2, .int sc t3] n) (by (first | ((repeat (first | exact List.Mem.head _ | refine List.Mem.tail _ ?_)); done) | ((repeat refine List.Mem.tail _ ?_); first | exact hD | (refine List.mem_append.mpr (.inl ?_); (first | ((repeat (first | exact List.Mem.head _ | refine List.Mem.tail _ ?_)); done) | ((repeat refine List.Mem.tail _ ?_); first | exact hD | (refine List.mem_append.mpr (.inl ?_); (first | ((repeat (first | exact List.Mem.head _ | refine List.Mem.tail _ ?_)); done) | ((repeat refine List.Mem.tail _ ?_); first | exact hD))) | (refine List.mem_append.mpr (.inr ?_); (first | ((repeat (first | exact List.Mem.head _ | refine List.Mem.tail _ ?_)); done) | ((repeat refine List.Mem.tail _ ?_); first | exact hD)))))) | (refine List.mem_append.mpr (.inr ?_); (first | ((repeat (first | exact List.Mem.head _ | refine List.Mem.tail _ ?_)); done) | ((repeat refine List.Mem.tail _ ?_); first | exact hD | (refine List.mem_append.mpr (.inl ?_); (first | ((repeat (first | exact List.Mem.head _ | refine List.Mem.tail _ ?_)); done) | ((repeat refine List.Mem.tail _ ?_); first | exact hD))) | (refine List.mem_append.mpr (.inr ?_); (first | ((repeat (first | exact List.Mem.head _ | refine List.Mem.tail _ ?_)); done) | ((repeat refine List.Mem.tail _ ?_); first | exact hD))))))))) (by simp [tup])
      have gw := k0 (L2 + 1, oc2) (by (first | ((repeat (first | exact List.Mem.head _ | refine List.Mem.tail _ ?_)); done) | ((repeat refine List.Mem.tail _ ?_); first | assumption | (refine List.mem_append.mpr (.inl ?_); (first | ((repeat (first | exact List.Mem.head _ | refine List.Mem.tail _ ?_)); done) | ((repeat refine List.Mem.tail _ ?_); first | assumption | (refine List.mem_append.mpr (.inl ?_); (first | ((repeat (first | exact List.Mem.head _ | refine List.Mem.tail _ ?_)); done) | ((repeat refine List.Mem.tail _ ?_); first | assumption))) | (refine List.mem_append.mpr (.inr ?_); (first | ((repeat (first | exact List.Mem.head _ | refine List.Mem.tail _ ?_)); done) | ((repeat refine List.Mem.tail _ ?_); first | assumption)))))) | (refine List.mem_append.mpr (.inr ?_); (first | ((repeat (first | exact List.Mem.head _ | refine List.Mem.tail _ ?_)); done) | ((repeat refine List.Mem.tail _ ?_); first | assumption | (refine List.mem_append.mpr (.inl ?_); (first | ((repeat (first | exact List.Mem.head _ | refine List.Mem.tail _ ?_)); done) | ((repeat refine List.Mem.tail _ ?_); first | assumption))) | (refine List.mem_append.mpr (.inr ?_); (first | ((repeat (first | exact List.Mem.head _ | refine List.Mem.tail _ ?_)); done) | ((repeat refine List.Mem.tail _ ?_); first | assumption))))))))) (Nat.ne_of_gt (Nat.lt_succ_of_lt (l2 _ tm)))
      have gt := k0 (L2 + 1 + 1, oc1) (by (first | ((repeat (first | exact List.Mem.head _ | refine List.Mem.tail _ ?_)); done) | ((repeat refine List.Mem.tail _ ?_); first | assumption | (refine List.mem_append.mpr (.inl ?_); (first | ((repeat (first | exact List.Mem.head _ | refine List.Mem.tail _ ?_)); done) | ((repeat refine List.Mem.tail _ ?_); first | assumption | (refine List.mem_append.mpr (.inl ?_); (first | ((repeat (first | exact List.Mem.head _ | refine List.Mem.tail _ ?_)); done) | ((repeat refine List.Mem.tail _ ?_); first | assumption))) | (refine List.mem_append.mpr (.inr ?_); (first | ((repeat (first | exact List.Mem.head _ | refine List.Mem.tail _ ?_)); done) | ((repeat refine List.Mem.tail _ ?_); first | assumption)))))) | (refine List.mem_append.mpr (.inr ?_); (first | ((repeat (first | exact List.Mem.head _ | refine List.Mem.tail _ ?_)); done) | ((repeat refine List.Mem.tail _ ?_); first | assumption | (refine List.mem_append.mpr (.inl ?_); (first | ((repeat (first | exact List.Mem.head _ | refine List.Mem.tail _ ?_)); done) | ((repeat refine List.Mem.tail _ ?_); first | assumption))) | (refine List.mem_append.mpr (.inr ?_); (first | ((repeat (first | exact List.Mem.head _ | refine List.Mem.tail _ ?_)); done) | ((repeat refine List.Mem.tail _ ?_); first | assumption))))))))) (Nat.ne_of_gt (Nat.lt_succ_of_lt (Nat.lt_succ_of_lt (l2 _ tm))))
      have hG9 : CodeHd base 426 422 := hG
      k_dflt (refine' cllt_use (C_memsh.use q_memsh (news := (422, tabObj ps) :: R0) (b := b) (i := i) (sc := sc) (wo := wo) (nm := nm) ?hm9j hp hwo) ?k1j Fn ?k3j N0 U0 (tab.cast rfl rfl (fun p hp => k2 p (by (first | ((repeat (first | exact hp | refine List.Mem.tail _ ?_)); done) | ((repeat refine List.Mem.tail _ ?_); first | exact hp | (refine List.mem_append.mpr (.inl ?_); (first | ((repeat (first | exact hp | refine List.Mem.tail _ ?_)); done) | ((repeat refine List.Mem.tail _ ?_); first | exact hp | (refine List.mem_append.mpr (.inl ?_); (first | ((repeat (first | exact hp | refine List.Mem.tail _ ?_)); done) | ((repeat refine List.Mem.tail _ ?_); first | exact hp | (refine List.mem_append.mpr (.inl ?_); (first | ((repeat (first | exact hp | refine List.Mem.tail _ ?_)); done) | ((repeat refine List.Mem.tail _ ?_); first | exact hp))) | (refine List.mem_append.mpr (.inr ?_); (first | ((repeat (first | exact hp | refine List.Mem.tail _ ?_)); done) | ((repeat refine List.Mem.tail _ ?_); first | exact hp)))))) | (refine List.mem_append.mpr (.inr ?_); (first | ((repeat (first | exact hp | refine List.Mem.tail _ ?_)); done) | ((repeat refine List.Mem.tail _ ?_); first | exact hp | (refine List.mem_append.mpr (.inl ?_); (first | ((repeat (first | exact hp | refine List.Mem.tail _ ?_)); done) | ((repeat refine List.Mem.tail _ ?_); first | exact hp))) | (refine List.mem_append.mpr (.inr ?_); (first | ((repeat (first | exact hp | refine List.Mem.tail _ ?_)); done) | ((repeat refine List.Mem.tail _ ?_); first | exact hp))))))))) | (refine List.mem_append.mpr (.inr ?_); (first | ((repeat (first | exact hp | refine List.Mem.tail _ ?_)); done) | ((repeat refine List.Mem.tail _ ?_); first | exact hp | (refine List.mem_append.mpr (.inl ?_); (first | ((repeat (first | exact hp | refine List.Mem.tail _ ?_)); done) | ((repeat refine List.Mem.tail _ ?_); first | exact hp | (refine List.mem_append.mpr (.inl ?_); (first | ((repeat (first | exact hp | refine List.Mem.tail _ ?_)); done) | ((repeat refine List.Mem.tail _ ?_); first | exact hp))) | (refine List.mem_append.mpr (.inr ?_); (first | ((repeat (first | exact hp | refine List.Mem.tail _ ?_)); done) | ((repeat refine List.Mem.tail _ ?_); first | exact hp)))))) | (refine List.mem_append.mpr (.inr ?_); (first | ((repeat (first | exact hp | refine List.Mem.tail _ ?_)); done) | ((repeat refine List.Mem.tail _ ?_); first | exact hp | (refine List.mem_append.mpr (.inl ?_); (first | ((repeat (first | exact hp | refine List.Mem.tail _ ?_)); done) | ((repeat refine List.Mem.tail _ ?_); first | exact hp))) | (refine List.mem_append.mpr (.inr ?_); (first | ((repeat (first | exact hp | refine List.Mem.tail _ ?_)); done) | ((repeat refine List.Mem.tail _ ?_); first | exact hp)))))))))))))) ?k5j hG9 ?k6j ?k7j ?k8j ?_; (case hm9j => exact gM.mono (fun p hp => .tail _ hp)); (case k1j => k_asm); (case k3j => k_asm); (case k5j => k_asm); (case k6j => first | exact rfl | assumption); (case k7j => first | omega | ktr_room); (case k8j => first | omega | ktr_units))
      rintro v9 add9 h9 tk9 ps1 ⟨ss, ⟨qs, vs1, ns1, tls, e9, f9, iS⟩, pm1, pw1⟩ tb9 F9 N9 l9
      subst e9
      subst f9
      clear l9 ne7 ne8 l7 l8 Nn Fn N0 U0 k0 kc0 k2 g9 i9
      obtain ⟨R1, N1, tab1, s1, gt1, gs1, gS1⟩ := opened N9 tb9 iS
      clear N9 tb9
      replace gM := gM.mono s1
      replace gF := gF.mono s1
      replace gq := s1 _ gq
      replace gD := s1 _ gD
      replace gw := s1 _ gw
      replace gt := s1 _ gt
      (try dsimp only)
      (try k_fold)
      repeat' (first | (k_unfold; (try dsimp only)) | walk1 | (dsimp only; walk1) | (leave1; (try dsimp only)) | fail "no step")
      unfold Stop
      (rename News _ _ _ _ => Nn)
      (rename Fr _ _ _ _ => Fn)
      have hz1 := gS1.length
      have hz2 := pm1.length_eq
      have hz3 := memSh_lt (wo := wo) (named := nm != Str.ofString "") hp
      refine' LCg.CompSrc.ledger (its := vs1.toList.toArray) (k := ns1) (by rfl) Fn Nn ?hm8j ?sz8j ?_
      case hm8j => (first | ((repeat (first | exact List.Mem.head _ | refine List.Mem.tail _ ?_)); done) | ((repeat refine List.Mem.tail _ ?_); first | assumption | (refine List.mem_append.mpr (.inl ?_); (first | ((repeat (first | exact List.Mem.head _ | refine List.Mem.tail _ ?_)); done) | ((repeat refine List.Mem.tail _ ?_); first | assumption | (refine List.mem_append.mpr (.inl ?_); (first | ((repeat (first | exact List.Mem.head _ | refine List.Mem.tail _ ?_)); done) | ((repeat refine List.Mem.tail _ ?_); first | assumption))) | (refine List.mem_append.mpr (.inr ?_); (first | ((repeat (first | exact List.Mem.head _ | refine List.Mem.tail _ ?_)); done) | ((repeat refine List.Mem.tail _ ?_); first | assumption)))))) | (refine List.mem_append.mpr (.inr ?_); (first | ((repeat (first | exact List.Mem.head _ | refine List.Mem.tail _ ?_)); done) | ((repeat refine List.Mem.tail _ ?_); first | assumption | (refine List.mem_append.mpr (.inl ?_); (first | ((repeat (first | exact List.Mem.head _ | refine List.Mem.tail _ ?_)); done) | ((repeat refine List.Mem.tail _ ?_); first | assumption))) | (refine List.mem_append.mpr (.inr ?_); (first | ((repeat (first | exact List.Mem.head _ | refine List.Mem.tail _ ?_)); done) | ((repeat refine List.Mem.tail _ ?_); first | assumption))))))))
      case sz8j => (rw [List.size_toArray, sizeLine_eq]; omega)
      intro g8
      refine' comp_run (n := vs1.toList.toArray.size) (fun i ys news => (∀ p ∈ R1, p ∈ news) ∧ FAll news ys (ss.take i)) ?turn8j ?fin8j _ 0 [] _ rfl ⟨fun p hp => ?in8j, .nil⟩
      case in8j => (first | ((repeat (first | exact hp | refine List.Mem.tail _ ?_)); done) | ((repeat refine List.Mem.tail _ ?_); first | exact hp | (refine List.mem_append.mpr (.inl ?_); (first | ((repeat (first | exact hp | refine List.Mem.tail _ ?_)); done) | ((repeat refine List.Mem.tail _ ?_); first | exact hp | (refine List.mem_append.mpr (.inl ?_); (first | ((repeat (first | exact hp | refine List.Mem.tail _ ?_)); done) | ((repeat refine List.Mem.tail _ ?_); first | exact hp))) | (refine List.mem_append.mpr (.inr ?_); (first | ((repeat (first | exact hp | refine List.Mem.tail _ ?_)); done) | ((repeat refine List.Mem.tail _ ?_); first | exact hp)))))) | (refine List.mem_append.mpr (.inr ?_); (first | ((repeat (first | exact hp | refine List.Mem.tail _ ?_)); done) | ((repeat refine List.Mem.tail _ ?_); first | exact hp | (refine List.mem_append.mpr (.inl ?_); (first | ((repeat (first | exact hp | refine List.Mem.tail _ ?_)); done) | ((repeat refine List.Mem.tail _ ?_); first | exact hp))) | (refine List.mem_append.mpr (.inr ?_); (first | ((repeat (first | exact hp | refine List.Mem.tail _ ?_)); done) | ((repeat refine List.Mem.tail _ ?_); first | exact hp))))))))
      case turn8j =>
        intro i8 v8 ys8 news8 I8 oI8 C8 oC8 D8 m8 h8 tk8 E8 hi8 hP8 hJ8 hC8 hx8 F8 N8 off8 ne8
        obtain ⟨sub8, fA8⟩ := hJ8
        obtain ⟨sh8, hsh8, hv8⟩ := gS1.get (i := i8) (v := v8) (by simpa using hP8)
        obtain @⟨x8, dx8, _, k1, k2, k3, k4, k5, k6, t1, t2, t3, t4, t5, t6, n8, hxx8, hdx8⟩ := hv8.mono sub8
        have gs8 := sub8 _ gs1
        repeat' (first | (k_unfold; (try dsimp only)) | walk1 | (dsimp only; walk1) | (leave1; (try dsimp only)) | fail "no step")
        all_goals unfold Stop
        obtain ⟨q1, q2, q3, q4⟩ : (I8 < _) ∧ (C8 < _) ∧ (D8 < _) ∧ AllLt _ news8 := by assumption
        refine' comp_end [(_, tup [.int sh8.mod _, .int sh8.rm _, .int sh8.sib _, .int sh8.wd _, .int sh8.x _, .int sh8.b _] _)] (by assumption) (by assumption) ?e81j ?e82j ?e83j ?hn8j ?ha8j off8 (off_one ⟨q1, q2, q3⟩) (src_led (.tail _ gs8)) ⟨fun p hp => .tail _ (sub8 p hp), fall_snoc fA8 hsh8⟩
        case e81j => (repeat (first | exact List.Mem.head _ | refine List.Mem.tail _ ?_))
        case e82j => (repeat (first | exact List.Mem.head _ | refine List.Mem.tail _ ?_))
        case e83j => (repeat (first | exact List.Mem.head _ | refine List.Mem.tail _ ?_))
        case hn8j => (first | (intro p hp; (repeat refine List.Mem.tail _ ?_); exact hp) | (intro p hp; ((repeat refine List.Mem.tail _ ?_); first | exact hp | (refine List.mem_append.mpr (.inl ?_); ((repeat refine List.Mem.tail _ ?_); first | exact hp | (refine List.mem_append.mpr (.inl ?_); ((repeat refine List.Mem.tail _ ?_); first | exact hp)) | (refine List.mem_append.mpr (.inr ?_); ((repeat refine List.Mem.tail _ ?_); first | exact hp)))) | (refine List.mem_append.mpr (.inr ?_); ((repeat refine List.Mem.tail _ ?_); first | exact hp | (refine List.mem_append.mpr (.inl ?_); ((repeat refine List.Mem.tail _ ?_); first | exact hp)) | (refine List.mem_append.mpr (.inr ?_); ((repeat refine List.Mem.tail _ ?_); first | exact hp)))))) | kcj_all)
        case ha8j => (intro p hp; rw [List.mem_singleton.mp hp]; (repeat (first | exact List.Mem.head _ | refine List.Mem.tail _ ?_)))
      case fin8j =>
        intro ys8 news8 hJ8
        obtain ⟨sub8, fA8⟩ := hJ8
        have e8 : ss.take vs1.toList.toArray.size = ss := by rw [List.size_toArray, hz1, List.take_length]
        rw [e8] at fA8
        (try clear N1)
        replace gM := gM.mono sub8
        replace gF := gF.mono sub8
        replace gq := sub8 _ gq
        replace gD := sub8 _ gD
        replace gw := sub8 _ gw
        replace gt := sub8 _ gt
        replace gs1 := sub8 _ gs1
        replace gS1 := gS1.mono sub8
        replace gt1 := sub8 _ gt1
        replace tab1 := tab1.cast rfl rfl sub8
        (try clear sub8)
        unfold LCg.FinA
        intro DF hF9 tkF9 FF9 NF9 oF9
        clear oF9
        obtain ⟨R2, NR2, sR2, gf9⟩ := fresh_led NF9
        clear NF9
        replace fA8 := fA8.mono sR2
        (try clear N1)
        replace gM := gM.mono sR2
        replace gF := gF.mono sR2
        replace gq := sR2 _ gq
        replace gD := sR2 _ gD
        replace gw := sR2 _ gw
        replace gt := sR2 _ gt
        replace gs1 := sR2 _ gs1
        replace gS1 := gS1.mono sR2
        replace gt1 := sR2 _ gt1
        replace tab1 := tab1.cast rfl rfl sR2
        (try clear sR2)
        (try dsimp only)
        repeat' (first | (k_unfold; (try dsimp only)) | walk1 | (dsimp only; walk1) | (leave1; (try dsimp only)) | fail "no step")
        unfold Stop
        (rename News _ _ _ _ => Nn)
        (rename Fr _ _ _ _ => Fn)
        have nd8 : ss.Nodup := pm1.nodup_iff.mpr (memSh_nodup hp)
        refine' sortedF Fn Nn (News.isList Nn (by (first | ((repeat (first | exact List.Mem.head _ | refine List.Mem.tail _ ?_)); done) | ((repeat refine List.Mem.tail _ ?_); first | assumption | (refine List.mem_append.mpr (.inl ?_); (first | ((repeat (first | exact List.Mem.head _ | refine List.Mem.tail _ ?_)); done) | ((repeat refine List.Mem.tail _ ?_); first | assumption | (refine List.mem_append.mpr (.inl ?_); (first | ((repeat (first | exact List.Mem.head _ | refine List.Mem.tail _ ?_)); done) | ((repeat refine List.Mem.tail _ ?_); first | assumption))) | (refine List.mem_append.mpr (.inr ?_); (first | ((repeat (first | exact List.Mem.head _ | refine List.Mem.tail _ ?_)); done) | ((repeat refine List.Mem.tail _ ?_); first | assumption)))))) | (refine List.mem_append.mpr (.inr ?_); (first | ((repeat (first | exact List.Mem.head _ | refine List.Mem.tail _ ?_)); done) | ((repeat refine List.Mem.tail _ ?_); first | assumption | (refine List.mem_append.mpr (.inl ?_); (first | ((repeat (first | exact List.Mem.head _ | refine List.Mem.tail _ ?_)); done) | ((repeat refine List.Mem.tail _ ?_); first | assumption))) | (refine List.mem_append.mpr (.inr ?_); (first | ((repeat (first | exact List.Mem.head _ | refine List.Mem.tail _ ?_)); done) | ((repeat refine List.Mem.tail _ ?_); first | assumption)))))))))) (fA8.mono ?su8j) nd8 ?lt8j ?_
        case su8j => exact fun p hp => by (first | ((repeat (first | exact hp | refine List.Mem.tail _ ?_)); done) | ((repeat refine List.Mem.tail _ ?_); first | exact hp | (refine List.mem_append.mpr (.inl ?_); (first | ((repeat (first | exact hp | refine List.Mem.tail _ ?_)); done) | ((repeat refine List.Mem.tail _ ?_); first | exact hp | (refine List.mem_append.mpr (.inl ?_); (first | ((repeat (first | exact hp | refine List.Mem.tail _ ?_)); done) | ((repeat refine List.Mem.tail _ ?_); first | exact hp))) | (refine List.mem_append.mpr (.inr ?_); (first | ((repeat (first | exact hp | refine List.Mem.tail _ ?_)); done) | ((repeat refine List.Mem.tail _ ?_); first | exact hp)))))) | (refine List.mem_append.mpr (.inr ?_); (first | ((repeat (first | exact hp | refine List.Mem.tail _ ?_)); done) | ((repeat refine List.Mem.tail _ ?_); first | exact hp | (refine List.mem_append.mpr (.inl ?_); (first | ((repeat (first | exact hp | refine List.Mem.tail _ ?_)); done) | ((repeat refine List.Mem.tail _ ?_); first | exact hp))) | (refine List.mem_append.mpr (.inr ?_); (first | ((repeat (first | exact hp | refine List.Mem.tail _ ?_)); done) | ((repeat refine List.Mem.tail _ ?_); first | exact hp))))))))
        case lt8j => omega
        intro S8 h8 tk8 c8 va8 sa8 F8 N8 l8 hA8 pA8 wA8
        (try clear Fn Nn)
        repeat' (first | (k_unfold; (try dsimp only)) | walk1 | (dsimp only; walk1) | (leave1; (try dsimp only)) | fail "no step")
        unfold Stop
        (rename News _ _ _ _ => Nn)
        (rename Fr _ _ _ _ => Fn)
        have pL8 := law_perm (named := nm != Str.ofString "") hp hwo
        have nd9 := pL8.nodup_iff.mpr (memSh_nodup hp)
        have hz4 := pL8.length_eq
        refine' sortedF Fn Nn (News.isList Nn (by (first | ((repeat (first | exact List.Mem.head _ | refine List.Mem.tail _ ?_)); done) | ((repeat refine List.Mem.tail _ ?_); first | assumption | (refine List.mem_append.mpr (.inl ?_); (first | ((repeat (first | exact List.Mem.head _ | refine List.Mem.tail _ ?_)); done) | ((repeat refine List.Mem.tail _ ?_); first | assumption | (refine List.mem_append.mpr (.inl ?_); (first | ((repeat (first | exact List.Mem.head _ | refine List.Mem.tail _ ?_)); done) | ((repeat refine List.Mem.tail _ ?_); first | assumption))) | (refine List.mem_append.mpr (.inr ?_); (first | ((repeat (first | exact List.Mem.head _ | refine List.Mem.tail _ ?_)); done) | ((repeat refine List.Mem.tail _ ?_); first | assumption)))))) | (refine List.mem_append.mpr (.inr ?_); (first | ((repeat (first | exact List.Mem.head _ | refine List.Mem.tail _ ?_)); done) | ((repeat refine List.Mem.tail _ ?_); first | assumption | (refine List.mem_append.mpr (.inl ?_); (first | ((repeat (first | exact List.Mem.head _ | refine List.Mem.tail _ ?_)); done) | ((repeat refine List.Mem.tail _ ?_); first | assumption))) | (refine List.mem_append.mpr (.inr ?_); (first | ((repeat (first | exact List.Mem.head _ | refine List.Mem.tail _ ?_)); done) | ((repeat refine List.Mem.tail _ ?_); first | assumption)))))))))) (gF.mono ?su8j) nd9 ?lt8j ?_
        case su8j => exact fun p hp => by (first | ((repeat (first | exact hp | refine List.Mem.tail _ ?_)); done) | ((repeat refine List.Mem.tail _ ?_); first | exact hp | (refine List.mem_append.mpr (.inl ?_); (first | ((repeat (first | exact hp | refine List.Mem.tail _ ?_)); done) | ((repeat refine List.Mem.tail _ ?_); first | exact hp | (refine List.mem_append.mpr (.inl ?_); (first | ((repeat (first | exact hp | refine List.Mem.tail _ ?_)); done) | ((repeat refine List.Mem.tail _ ?_); first | exact hp))) | (refine List.mem_append.mpr (.inr ?_); (first | ((repeat (first | exact hp | refine List.Mem.tail _ ?_)); done) | ((repeat refine List.Mem.tail _ ?_); first | exact hp)))))) | (refine List.mem_append.mpr (.inr ?_); (first | ((repeat (first | exact hp | refine List.Mem.tail _ ?_)); done) | ((repeat refine List.Mem.tail _ ?_); first | exact hp | (refine List.mem_append.mpr (.inl ?_); (first | ((repeat (first | exact hp | refine List.Mem.tail _ ?_)); done) | ((repeat refine List.Mem.tail _ ?_); first | exact hp))) | (refine List.mem_append.mpr (.inr ?_); (first | ((repeat (first | exact hp | refine List.Mem.tail _ ?_)); done) | ((repeat refine List.Mem.tail _ ?_); first | exact hp))))))))
        case lt8j => omega
        intro S9 h9 tk9 c9 vb8 sb8 F9 N9 l9 hB8 pB8 wB8
        (try clear Fn Nn)
        repeat' (first | (k_unfold; (try dsimp only)) | walk1 | (dsimp only; walk1) | (leave1; (try dsimp only)) | fail "no step")
        unfold Stop
        (rename News _ _ _ _ => Nn)
        (rename Fr _ _ _ _ => Fn)
        have es8 : sa8 = sb8 := sorted_same ltSh_as ((pA8.trans pm1).trans (pB8.trans pL8).symm) wA8 wB8
        subst es8
        refine' same_ne (d := .list (sa8.map dat6)) Nn ?da8j ?db8j (dat6s_ok _) ?du8j ?_
        case da8j => exact .list (n := c8) (by (first | ((repeat (first | exact List.Mem.head _ | refine List.Mem.tail _ ?_)); done) | ((repeat refine List.Mem.tail _ ?_); first | assumption | (refine List.mem_append.mpr (.inl ?_); (first | ((repeat (first | exact List.Mem.head _ | refine List.Mem.tail _ ?_)); done) | ((repeat refine List.Mem.tail _ ?_); first | assumption | (refine List.mem_append.mpr (.inl ?_); (first | ((repeat (first | exact List.Mem.head _ | refine List.Mem.tail _ ?_)); done) | ((repeat refine List.Mem.tail _ ?_); first | assumption))) | (refine List.mem_append.mpr (.inr ?_); (first | ((repeat (first | exact List.Mem.head _ | refine List.Mem.tail _ ?_)); done) | ((repeat refine List.Mem.tail _ ?_); first | assumption)))))) | (refine List.mem_append.mpr (.inr ?_); (first | ((repeat (first | exact List.Mem.head _ | refine List.Mem.tail _ ?_)); done) | ((repeat refine List.Mem.tail _ ?_); first | assumption | (refine List.mem_append.mpr (.inl ?_); (first | ((repeat (first | exact List.Mem.head _ | refine List.Mem.tail _ ?_)); done) | ((repeat refine List.Mem.tail _ ?_); first | assumption))) | (refine List.mem_append.mpr (.inr ?_); (first | ((repeat (first | exact List.Mem.head _ | refine List.Mem.tail _ ?_)); done) | ((repeat refine List.Mem.tail _ ?_); first | assumption))))))))) ((hA8.mono (fun p hp => by (first | ((repeat (first | exact hp | refine List.Mem.tail _ ?_)); done) | ((repeat refine List.Mem.tail _ ?_); first | exact hp | (refine List.mem_append.mpr (.inl ?_); (first | ((repeat (first | exact hp | refine List.Mem.tail _ ?_)); done) | ((repeat refine List.Mem.tail _ ?_); first | exact hp | (refine List.mem_append.mpr (.inl ?_); (first | ((repeat (first | exact hp | refine List.Mem.tail _ ?_)); done) | ((repeat refine List.Mem.tail _ ?_); first | exact hp))) | (refine List.mem_append.mpr (.inr ?_); (first | ((repeat (first | exact hp | refine List.Mem.tail _ ?_)); done) | ((repeat refine List.Mem.tail _ ?_); first | exact hp)))))) | (refine List.mem_append.mpr (.inr ?_); (first | ((repeat (first | exact hp | refine List.Mem.tail _ ?_)); done) | ((repeat refine List.Mem.tail _ ?_); first | exact hp | (refine List.mem_append.mpr (.inl ?_); (first | ((repeat (first | exact hp | refine List.Mem.tail _ ?_)); done) | ((repeat refine List.Mem.tail _ ?_); first | exact hp))) | (refine List.mem_append.mpr (.inr ?_); (first | ((repeat (first | exact hp | refine List.Mem.tail _ ?_)); done) | ((repeat refine List.Mem.tail _ ?_); first | exact hp)))))))))).dat)
        case db8j => exact .list (n := c9) (by (first | ((repeat (first | exact List.Mem.head _ | refine List.Mem.tail _ ?_)); done) | ((repeat refine List.Mem.tail _ ?_); first | assumption | (refine List.mem_append.mpr (.inl ?_); (first | ((repeat (first | exact List.Mem.head _ | refine List.Mem.tail _ ?_)); done) | ((repeat refine List.Mem.tail _ ?_); first | assumption | (refine List.mem_append.mpr (.inl ?_); (first | ((repeat (first | exact List.Mem.head _ | refine List.Mem.tail _ ?_)); done) | ((repeat refine List.Mem.tail _ ?_); first | assumption))) | (refine List.mem_append.mpr (.inr ?_); (first | ((repeat (first | exact List.Mem.head _ | refine List.Mem.tail _ ?_)); done) | ((repeat refine List.Mem.tail _ ?_); first | assumption)))))) | (refine List.mem_append.mpr (.inr ?_); (first | ((repeat (first | exact List.Mem.head _ | refine List.Mem.tail _ ?_)); done) | ((repeat refine List.Mem.tail _ ?_); first | assumption | (refine List.mem_append.mpr (.inl ?_); (first | ((repeat (first | exact List.Mem.head _ | refine List.Mem.tail _ ?_)); done) | ((repeat refine List.Mem.tail _ ?_); first | assumption))) | (refine List.mem_append.mpr (.inr ?_); (first | ((repeat (first | exact List.Mem.head _ | refine List.Mem.tail _ ?_)); done) | ((repeat refine List.Mem.tail _ ?_); first | assumption))))))))) ((hB8.mono (fun p hp => by (first | ((repeat (first | exact hp | refine List.Mem.tail _ ?_)); done) | ((repeat refine List.Mem.tail _ ?_); first | exact hp | (refine List.mem_append.mpr (.inl ?_); (first | ((repeat (first | exact hp | refine List.Mem.tail _ ?_)); done) | ((repeat refine List.Mem.tail _ ?_); first | exact hp | (refine List.mem_append.mpr (.inl ?_); (first | ((repeat (first | exact hp | refine List.Mem.tail _ ?_)); done) | ((repeat refine List.Mem.tail _ ?_); first | exact hp))) | (refine List.mem_append.mpr (.inr ?_); (first | ((repeat (first | exact hp | refine List.Mem.tail _ ?_)); done) | ((repeat refine List.Mem.tail _ ?_); first | exact hp)))))) | (refine List.mem_append.mpr (.inr ?_); (first | ((repeat (first | exact hp | refine List.Mem.tail _ ?_)); done) | ((repeat refine List.Mem.tail _ ?_); first | exact hp | (refine List.mem_append.mpr (.inl ?_); (first | ((repeat (first | exact hp | refine List.Mem.tail _ ?_)); done) | ((repeat refine List.Mem.tail _ ?_); first | exact hp))) | (refine List.mem_append.mpr (.inr ?_); (first | ((repeat (first | exact hp | refine List.Mem.tail _ ?_)); done) | ((repeat refine List.Mem.tail _ ?_); first | exact hp)))))))))).dat)
        case du8j => ke_room
        clear hA8 hB8 pA8 pB8 wA8 wB8
        repeat' (first | (k_unfold; (try dsimp only)) | walk1 | (dsimp only; walk1) | (leave1; (try dsimp only)) | fail "no step")
        unfold Stop
        (rename News _ _ _ _ => Nn)
        (rename Fr _ _ _ _ => Fn)
        have hy8 := fA8.length
        have hz6 : ss.length ≤ 6 := by rw [hz2]; exact memSh_six
        refine' setF Fn Nn (News.isList Nn (by (first | ((repeat (first | exact List.Mem.head _ | refine List.Mem.tail _ ?_)); done) | ((repeat refine List.Mem.tail _ ?_); first | assumption | (refine List.mem_append.mpr (.inl ?_); (first | ((repeat (first | exact List.Mem.head _ | refine List.Mem.tail _ ?_)); done) | ((repeat refine List.Mem.tail _ ?_); first | assumption | (refine List.mem_append.mpr (.inl ?_); (first | ((repeat (first | exact List.Mem.head _ | refine List.Mem.tail _ ?_)); done) | ((repeat refine List.Mem.tail _ ?_); first | assumption))) | (refine List.mem_append.mpr (.inr ?_); (first | ((repeat (first | exact List.Mem.head _ | refine List.Mem.tail _ ?_)); done) | ((repeat refine List.Mem.tail _ ?_); first | assumption)))))) | (refine List.mem_append.mpr (.inr ?_); (first | ((repeat (first | exact List.Mem.head _ | refine List.Mem.tail _ ?_)); done) | ((repeat refine List.Mem.tail _ ?_); first | assumption | (refine List.mem_append.mpr (.inl ?_); (first | ((repeat (first | exact List.Mem.head _ | refine List.Mem.tail _ ?_)); done) | ((repeat refine List.Mem.tail _ ?_); first | assumption))) | (refine List.mem_append.mpr (.inr ?_); (first | ((repeat (first | exact List.Mem.head _ | refine List.Mem.tail _ ?_)); done) | ((repeat refine List.Mem.tail _ ?_); first | assumption)))))))))) (fA8.mono ?su8j) nd8 (by omega) (by rfl) ?du8j ?_
        case su8j => exact fun p hp => by (first | ((repeat (first | exact hp | refine List.Mem.tail _ ?_)); done) | ((repeat refine List.Mem.tail _ ?_); first | exact hp | (refine List.mem_append.mpr (.inl ?_); (first | ((repeat (first | exact hp | refine List.Mem.tail _ ?_)); done) | ((repeat refine List.Mem.tail _ ?_); first | exact hp | (refine List.mem_append.mpr (.inl ?_); (first | ((repeat (first | exact hp | refine List.Mem.tail _ ?_)); done) | ((repeat refine List.Mem.tail _ ?_); first | exact hp))) | (refine List.mem_append.mpr (.inr ?_); (first | ((repeat (first | exact hp | refine List.Mem.tail _ ?_)); done) | ((repeat refine List.Mem.tail _ ?_); first | exact hp)))))) | (refine List.mem_append.mpr (.inr ?_); (first | ((repeat (first | exact hp | refine List.Mem.tail _ ?_)); done) | ((repeat refine List.Mem.tail _ ?_); first | exact hp | (refine List.mem_append.mpr (.inl ?_); (first | ((repeat (first | exact hp | refine List.Mem.tail _ ?_)); done) | ((repeat refine List.Mem.tail _ ?_); first | exact hp))) | (refine List.mem_append.mpr (.inr ?_); (first | ((repeat (first | exact hp | refine List.Mem.tail _ ?_)); done) | ((repeat refine List.Mem.tail _ ?_); first | exact hp))))))))
        case du8j => ke_room
        intro S7 h7 tk7 o7 F7 N7 l7 hS7
        (try clear Fn Nn)
        repeat' (first | (k_unfold; (try dsimp only)) | walk1 | (dsimp only; walk1) | (leave1; (try dsimp only)) | fail "no step")
        all_goals (try exact absurd rfl (by assumption : (ss.length : Int) ≠ (ss.length : Int)))
        unfold Stop
        (rename News _ _ _ _ => Nn)
        (rename Fr _ _ _ _ => Fn)
        refine' LCg.CompSrc.ledger (its := ys8.toArray) (k := ys8.length) (by rfl) Fn Nn ?hm8j ?sz8j ?_
        case hm8j => (first | ((repeat (first | exact List.Mem.head _ | refine List.Mem.tail _ ?_)); done) | ((repeat refine List.Mem.tail _ ?_); first | assumption | (refine List.mem_append.mpr (.inl ?_); (first | ((repeat (first | exact List.Mem.head _ | refine List.Mem.tail _ ?_)); done) | ((repeat refine List.Mem.tail _ ?_); first | assumption | (refine List.mem_append.mpr (.inl ?_); (first | ((repeat (first | exact List.Mem.head _ | refine List.Mem.tail _ ?_)); done) | ((repeat refine List.Mem.tail _ ?_); first | assumption))) | (refine List.mem_append.mpr (.inr ?_); (first | ((repeat (first | exact List.Mem.head _ | refine List.Mem.tail _ ?_)); done) | ((repeat refine List.Mem.tail _ ?_); first | assumption)))))) | (refine List.mem_append.mpr (.inr ?_); (first | ((repeat (first | exact List.Mem.head _ | refine List.Mem.tail _ ?_)); done) | ((repeat refine List.Mem.tail _ ?_); first | assumption | (refine List.mem_append.mpr (.inl ?_); (first | ((repeat (first | exact List.Mem.head _ | refine List.Mem.tail _ ?_)); done) | ((repeat refine List.Mem.tail _ ?_); first | assumption))) | (refine List.mem_append.mpr (.inr ?_); (first | ((repeat (first | exact List.Mem.head _ | refine List.Mem.tail _ ?_)); done) | ((repeat refine List.Mem.tail _ ?_); first | assumption))))))))
        case sz8j => (rw [List.size_toArray, sizeLine_eq]; omega)
        intro g8
        refine' comp_run (n := ys8.toArray.size) (fun i ys news => (∀ p ∈ R2, p ∈ news) ∧ IntsAre ys ((ss.take i).map keyR)) ?turn8j ?fin8j _ 0 [] _ rfl ⟨fun p hp => ?in8j, .nil⟩
        case in8j => (first | ((repeat (first | exact hp | refine List.Mem.tail _ ?_)); done) | ((repeat refine List.Mem.tail _ ?_); first | exact hp | (refine List.mem_append.mpr (.inl ?_); (first | ((repeat (first | exact hp | refine List.Mem.tail _ ?_)); done) | ((repeat refine List.Mem.tail _ ?_); first | exact hp | (refine List.mem_append.mpr (.inl ?_); (first | ((repeat (first | exact hp | refine List.Mem.tail _ ?_)); done) | ((repeat refine List.Mem.tail _ ?_); first | exact hp))) | (refine List.mem_append.mpr (.inr ?_); (first | ((repeat (first | exact hp | refine List.Mem.tail _ ?_)); done) | ((repeat refine List.Mem.tail _ ?_); first | exact hp)))))) | (refine List.mem_append.mpr (.inr ?_); (first | ((repeat (first | exact hp | refine List.Mem.tail _ ?_)); done) | ((repeat refine List.Mem.tail _ ?_); first | exact hp | (refine List.mem_append.mpr (.inl ?_); (first | ((repeat (first | exact hp | refine List.Mem.tail _ ?_)); done) | ((repeat refine List.Mem.tail _ ?_); first | exact hp))) | (refine List.mem_append.mpr (.inr ?_); (first | ((repeat (first | exact hp | refine List.Mem.tail _ ?_)); done) | ((repeat refine List.Mem.tail _ ?_); first | exact hp))))))))
        case turn8j =>
          intro i8 v8 yr8 news8 I8 oI8 C8 oC8 D8 m8 h8 tk8 E8 hi8 hP8 hJ8 hC8 hx8 F8 N8 off8 ne8
          obtain ⟨sub8, fI8⟩ := hJ8
          obtain ⟨sh8, hsh8, hv8⟩ := fA8.get1 (i := i8) (v := v8) (by simpa using hP8)
          have hmem8 := pm1.mem_iff.mp (List.mem_of_getElem? hsh8)
          have hkey8 := key_of hp hmem8
          obtain ⟨okm, okr, okx, okb, oks, okm2⟩ := memSh_ok hp hmem8
          have hs8 : sh8.sib < 256 := by omega
          have hv9 := hv8.mono sub8
          have gs8 := sub8 _ gf9
          obtain @⟨T8, _, t1, t2, t3, t4, t5, t6, n8, hT8⟩ := hv8.mono sub8
          repeat' (first | (k_unfold; (try dsimp only)) | walk1 | (dsimp only; walk1) | (leave1; (try dsimp only)) | fail "no step")
          all_goals unfold Stop
          all_goals (refine' comp_end [] (by assumption) (by assumption) (by (repeat (first | exact List.Mem.head _ | refine List.Mem.tail _ ?_))) (by (repeat (first | exact List.Mem.head _ | refine List.Mem.tail _ ?_))) (by (repeat (first | exact List.Mem.head _ | refine List.Mem.tail _ ?_))) (by (first | (intro p hp; (repeat refine List.Mem.tail _ ?_); exact hp) | (intro p hp; ((repeat refine List.Mem.tail _ ?_); first | exact hp | (refine List.mem_append.mpr (.inl ?_); ((repeat refine List.Mem.tail _ ?_); first | exact hp | (refine List.mem_append.mpr (.inl ?_); ((repeat refine List.Mem.tail _ ?_); first | exact hp)) | (refine List.mem_append.mpr (.inr ?_); ((repeat refine List.Mem.tail _ ?_); first | exact hp)))) | (refine List.mem_append.mpr (.inr ?_); ((repeat refine List.Mem.tail _ ?_); first | exact hp | (refine List.mem_append.mpr (.inl ?_); ((repeat refine List.Mem.tail _ ?_); first | exact hp)) | (refine List.mem_append.mpr (.inr ?_); ((repeat refine List.Mem.tail _ ?_); first | exact hp)))))) | kcj_all)) no_sub off8 off_nil (src_led gs8) ⟨sub8, ints_snoc fI8 hsh8 ?_⟩)
          all_goals (rw [hkey8]; (rename (needless _ _ _ _ = _) => c8); rw [c8]; simp)
        case fin8j =>
          intro yr8 news8 hJ8
          obtain ⟨sub8, fI8⟩ := hJ8
          have e8 : ss.take ys8.toArray.size = ss := by rw [List.size_toArray, hy8, List.take_length]
          rw [e8] at fI8
          unfold LCg.FinA
          intro DR hF9 tkF9 FF9 NF9 oF9
          clear oF9
          obtain ⟨R3, NR3, sR3, gr9⟩ := fresh_led NF9
          clear NF9
          replace sR3 := fun p hp => sR3 p (sub8 p hp)
          clear sub8
          replace fA8 := fA8.mono sR3
          replace gf9 := sR3 _ gf9
          (try clear N1)
          replace gM := gM.mono sR3
          replace gF := gF.mono sR3
          replace gq := sR3 _ gq
          replace gD := sR3 _ gD
          replace gw := sR3 _ gw
          replace gt := sR3 _ gt
          replace gs1 := sR3 _ gs1
          replace gS1 := gS1.mono sR3
          replace gt1 := sR3 _ gt1
          replace tab1 := tab1.cast rfl rfl sR3
          (try clear sR3)
          (try dsimp only)
          repeat' (first | (k_unfold; (try dsimp only)) | walk1 | (dsimp only; walk1) | (leave1; (try dsimp only)) | fail "no step")
          unfold Stop
          (rename News _ _ _ _ => Nn)
          (rename Fr _ _ _ _ => Fn)
          have hy9 : yr8.length = ss.length := by rw [fI8.length, List.length_map]
          refine' sorted_N Fn Nn (News.isList Nn (by (first | ((repeat (first | exact List.Mem.head _ | refine List.Mem.tail _ ?_)); done) | ((repeat refine List.Mem.tail _ ?_); first | assumption | (refine List.mem_append.mpr (.inl ?_); (first | ((repeat (first | exact List.Mem.head _ | refine List.Mem.tail _ ?_)); done) | ((repeat refine List.Mem.tail _ ?_); first | assumption | (refine List.mem_append.mpr (.inl ?_); (first | ((repeat (first | exact List.Mem.head _ | refine List.Mem.tail _ ?_)); done) | ((repeat refine List.Mem.tail _ ?_); first | assumption))) | (refine List.mem_append.mpr (.inr ?_); (first | ((repeat (first | exact List.Mem.head _ | refine List.Mem.tail _ ?_)); done) | ((repeat refine List.Mem.tail _ ?_); first | assumption)))))) | (refine List.mem_append.mpr (.inr ?_); (first | ((repeat (first | exact List.Mem.head _ | refine List.Mem.tail _ ?_)); done) | ((repeat refine List.Mem.tail _ ?_); first | assumption | (refine List.mem_append.mpr (.inl ?_); (first | ((repeat (first | exact List.Mem.head _ | refine List.Mem.tail _ ?_)); done) | ((repeat refine List.Mem.tail _ ?_); first | assumption))) | (refine List.mem_append.mpr (.inr ?_); (first | ((repeat (first | exact List.Mem.head _ | refine List.Mem.tail _ ?_)); done) | ((repeat refine List.Mem.tail _ ?_); first | assumption)))))))))) fI8 (by omega) ?_
          intro h9 vs9 ns9 e9 F9 N9 hI9 hp9 hs9
          (try clear Fn Nn)
          repeat' (first | (k_unfold; (try dsimp only)) | walk1 | (dsimp only; walk1) | (leave1; (try dsimp only)) | fail "no step")
          unfold Stop
          (rename News _ _ _ _ => Nn)
          (rename Fr _ _ _ _ => Fn)
          have en9 : ns9 = ss.map keyR := le_same hp9 hs9 (keys_le pw1)
          subst en9
          refine' same_ne (d := .list ((ss.map keyR).map Dat.int)) Nn ?da8j ?db8j (ints_ok _) ?du8j ?_
          case da8j => exact .list (n := yr8.length) (by (first | ((repeat (first | exact List.Mem.head _ | refine List.Mem.tail _ ?_)); done) | ((repeat refine List.Mem.tail _ ?_); first | assumption | (refine List.mem_append.mpr (.inl ?_); (first | ((repeat (first | exact List.Mem.head _ | refine List.Mem.tail _ ?_)); done) | ((repeat refine List.Mem.tail _ ?_); first | assumption | (refine List.mem_append.mpr (.inl ?_); (first | ((repeat (first | exact List.Mem.head _ | refine List.Mem.tail _ ?_)); done) | ((repeat refine List.Mem.tail _ ?_); first | assumption))) | (refine List.mem_append.mpr (.inr ?_); (first | ((repeat (first | exact List.Mem.head _ | refine List.Mem.tail _ ?_)); done) | ((repeat refine List.Mem.tail _ ?_); first | assumption)))))) | (refine List.mem_append.mpr (.inr ?_); (first | ((repeat (first | exact List.Mem.head _ | refine List.Mem.tail _ ?_)); done) | ((repeat refine List.Mem.tail _ ?_); first | assumption | (refine List.mem_append.mpr (.inl ?_); (first | ((repeat (first | exact List.Mem.head _ | refine List.Mem.tail _ ?_)); done) | ((repeat refine List.Mem.tail _ ?_); first | assumption))) | (refine List.mem_append.mpr (.inr ?_); (first | ((repeat (first | exact List.Mem.head _ | refine List.Mem.tail _ ?_)); done) | ((repeat refine List.Mem.tail _ ?_); first | assumption))))))))) (ints_dat fI8)
          case db8j => exact .list (n := e9) (by (first | ((repeat (first | exact List.Mem.head _ | refine List.Mem.tail _ ?_)); done) | ((repeat refine List.Mem.tail _ ?_); first | assumption | (refine List.mem_append.mpr (.inl ?_); (first | ((repeat (first | exact List.Mem.head _ | refine List.Mem.tail _ ?_)); done) | ((repeat refine List.Mem.tail _ ?_); first | assumption | (refine List.mem_append.mpr (.inl ?_); (first | ((repeat (first | exact List.Mem.head _ | refine List.Mem.tail _ ?_)); done) | ((repeat refine List.Mem.tail _ ?_); first | assumption))) | (refine List.mem_append.mpr (.inr ?_); (first | ((repeat (first | exact List.Mem.head _ | refine List.Mem.tail _ ?_)); done) | ((repeat refine List.Mem.tail _ ?_); first | assumption)))))) | (refine List.mem_append.mpr (.inr ?_); (first | ((repeat (first | exact List.Mem.head _ | refine List.Mem.tail _ ?_)); done) | ((repeat refine List.Mem.tail _ ?_); first | assumption | (refine List.mem_append.mpr (.inl ?_); (first | ((repeat (first | exact List.Mem.head _ | refine List.Mem.tail _ ?_)); done) | ((repeat refine List.Mem.tail _ ?_); first | assumption))) | (refine List.mem_append.mpr (.inr ?_); (first | ((repeat (first | exact List.Mem.head _ | refine List.Mem.tail _ ?_)); done) | ((repeat refine List.Mem.tail _ ?_); first | assumption))))))))) (ints_dat hI9)
          case du8j => ke_room
          clear hI9 hp9 hs9
          repeat' (first | (k_unfold; (try dsimp only)) | walk1 | (dsimp only; walk1) | (leave1; (try dsimp only)) | fail "no step")
          unfold Stop
          (rename News _ _ _ _ => Nn)
          (rename Fr _ _ _ _ => Fn)
          obtain ⟨R4, N4, U4, k4, kc4, k5⟩ := apart2 Nn (by (first | ((repeat (first | exact List.Mem.head _ | refine List.Mem.tail _ ?_)); done) | ((repeat refine List.Mem.tail _ ?_); first | assumption | (refine List.mem_append.mpr (.inl ?_); (first | ((repeat (first | exact List.Mem.head _ | refine List.Mem.tail _ ?_)); done) | ((repeat refine List.Mem.tail _ ?_); first | assumption | (refine List.mem_append.mpr (.inl ?_); (first | ((repeat (first | exact List.Mem.head _ | refine List.Mem.tail _ ?_)); done) | ((repeat refine List.Mem.tail _ ?_); first | assumption))) | (refine List.mem_append.mpr (.inr ?_); (first | ((repeat (first | exact List.Mem.head _ | refine List.Mem.tail _ ?_)); done) | ((repeat refine List.Mem.tail _ ?_); first | assumption)))))) | (refine List.mem_append.mpr (.inr ?_); (first | ((repeat (first | exact List.Mem.head _ | refine List.Mem.tail _ ?_)); done) | ((repeat refine List.Mem.tail _ ?_); first | assumption | (refine List.mem_append.mpr (.inl ?_); (first | ((repeat (first | exact List.Mem.head _ | refine List.Mem.tail _ ?_)); done) | ((repeat refine List.Mem.tail _ ?_); first | assumption))) | (refine List.mem_append.mpr (.inr ?_); (first | ((repeat (first | exact List.Mem.head _ | refine List.Mem.tail _ ?_)); done) | ((repeat refine List.Mem.tail _ ?_); first | assumption)))))))) : (422, tabObj ps1) ∈ _)
          k_dflt (refine' cllt_use (C_least.use q_least (news := (422, tabObj ps1) :: R4) (b := b) (i := i) (sc := sc) (wo := wo) (nm := nm) ?hm9j hp hwo) ?k1j Fn ?k3j N4 U4 (tab1.cast rfl rfl (fun p hp => k5 p (by (first | ((repeat (first | exact hp | refine List.Mem.tail _ ?_)); done) | ((repeat refine List.Mem.tail _ ?_); first | exact hp | (refine List.mem_append.mpr (.inl ?_); (first | ((repeat (first | exact hp | refine List.Mem.tail _ ?_)); done) | ((repeat refine List.Mem.tail _ ?_); first | exact hp | (refine List.mem_append.mpr (.inl ?_); (first | ((repeat (first | exact hp | refine List.Mem.tail _ ?_)); done) | ((repeat refine List.Mem.tail _ ?_); first | exact hp))) | (refine List.mem_append.mpr (.inr ?_); (first | ((repeat (first | exact hp | refine List.Mem.tail _ ?_)); done) | ((repeat refine List.Mem.tail _ ?_); first | exact hp)))))) | (refine List.mem_append.mpr (.inr ?_); (first | ((repeat (first | exact hp | refine List.Mem.tail _ ?_)); done) | ((repeat refine List.Mem.tail _ ?_); first | exact hp | (refine List.mem_append.mpr (.inl ?_); (first | ((repeat (first | exact hp | refine List.Mem.tail _ ?_)); done) | ((repeat refine List.Mem.tail _ ?_); first | exact hp))) | (refine List.mem_append.mpr (.inr ?_); (first | ((repeat (first | exact hp | refine List.Mem.tail _ ?_)); done) | ((repeat refine List.Mem.tail _ ?_); first | exact hp))))))))))) ?k5j hG9 ?k6j ?k7j ?k8j ?_; (case hm9j => exact gM.mono (fun p hp => k5 p (by (first | ((repeat (first | exact hp | refine List.Mem.tail _ ?_)); done) | ((repeat refine List.Mem.tail _ ?_); first | exact hp | (refine List.mem_append.mpr (.inl ?_); (first | ((repeat (first | exact hp | refine List.Mem.tail _ ?_)); done) | ((repeat refine List.Mem.tail _ ?_); first | exact hp | (refine List.mem_append.mpr (.inl ?_); (first | ((repeat (first | exact hp | refine List.Mem.tail _ ?_)); done) | ((repeat refine List.Mem.tail _ ?_); first | exact hp))) | (refine List.mem_append.mpr (.inr ?_); (first | ((repeat (first | exact hp | refine List.Mem.tail _ ?_)); done) | ((repeat refine List.Mem.tail _ ?_); first | exact hp)))))) | (refine List.mem_append.mpr (.inr ?_); (first | ((repeat (first | exact hp | refine List.Mem.tail _ ?_)); done) | ((repeat refine List.Mem.tail _ ?_); first | exact hp | (refine List.mem_append.mpr (.inl ?_); (first | ((repeat (first | exact hp | refine List.Mem.tail _ ?_)); done) | ((repeat refine List.Mem.tail _ ?_); first | exact hp))) | (refine List.mem_append.mpr (.inr ?_); (first | ((repeat (first | exact hp | refine List.Mem.tail _ ?_)); done) | ((repeat refine List.Mem.tail _ ?_); first | exact hp))))))))))); (case k1j => k_asm); (case k3j => k_asm); (case k5j => k_asm); (case k6j => first | exact rfl | assumption); (case k7j => first | omega | ktr_room); (case k8j => first | omega | ktr_units))
          rintro v9 add9 h9 tk9 ps2 ⟨s0, ss0, pm0, pw0, hv0⟩ tb9 F9 N9 l9
          clear l9 tb9
          obtain ⟨R5, N5, s5, hv5, gt2⟩ := led_after N9 hv0
          clear N9
          have kc5 := (fun p hp hc => s5 p (kc4 p (by (first | ((repeat (first | exact hp | refine List.Mem.tail _ ?_)); done) | ((repeat refine List.Mem.tail _ ?_); first | exact hp | (refine List.mem_append.mpr (.inl ?_); (first | ((repeat (first | exact hp | refine List.Mem.tail _ ?_)); done) | ((repeat refine List.Mem.tail _ ?_); first | exact hp | (refine List.mem_append.mpr (.inl ?_); (first | ((repeat (first | exact hp | refine List.Mem.tail _ ?_)); done) | ((repeat refine List.Mem.tail _ ?_); first | exact hp))) | (refine List.mem_append.mpr (.inr ?_); (first | ((repeat (first | exact hp | refine List.Mem.tail _ ?_)); done) | ((repeat refine List.Mem.tail _ ?_); first | exact hp)))))) | (refine List.mem_append.mpr (.inr ?_); (first | ((repeat (first | exact hp | refine List.Mem.tail _ ?_)); done) | ((repeat refine List.Mem.tail _ ?_); first | exact hp | (refine List.mem_append.mpr (.inl ?_); (first | ((repeat (first | exact hp | refine List.Mem.tail _ ?_)); done) | ((repeat refine List.Mem.tail _ ?_); first | exact hp))) | (refine List.mem_append.mpr (.inr ?_); (first | ((repeat (first | exact hp | refine List.Mem.tail _ ?_)); done) | ((repeat refine List.Mem.tail _ ?_); first | exact hp))))))))) hc) : ∀ p ∈ R3, p.2.cls ≠ .none → p ∈ R5)
          replace gF := gF.kc kc5
          replace fA8 := fA8.kc kc5
          replace gS1 := gS1.kc kc5
          replace gq := kc5 _ gq (by simp)
          replace gs1 := kc5 _ gs1 (by simp)
          replace gf9 := kc5 _ gf9 (by simp)
          replace gD := kc5 _ gD (by simp)
          have kw5 := (fun p hp hc => s5 p (k4 p (by (first | ((repeat (first | exact hp | refine List.Mem.tail _ ?_)); done) | ((repeat refine List.Mem.tail _ ?_); first | exact hp | (refine List.mem_append.mpr (.inl ?_); (first | ((repeat (first | exact hp | refine List.Mem.tail _ ?_)); done) | ((repeat refine List.Mem.tail _ ?_); first | exact hp | (refine List.mem_append.mpr (.inl ?_); (first | ((repeat (first | exact hp | refine List.Mem.tail _ ?_)); done) | ((repeat refine List.Mem.tail _ ?_); first | exact hp))) | (refine List.mem_append.mpr (.inr ?_); (first | ((repeat (first | exact hp | refine List.Mem.tail _ ?_)); done) | ((repeat refine List.Mem.tail _ ?_); first | exact hp)))))) | (refine List.mem_append.mpr (.inr ?_); (first | ((repeat (first | exact hp | refine List.Mem.tail _ ?_)); done) | ((repeat refine List.Mem.tail _ ?_); first | exact hp | (refine List.mem_append.mpr (.inl ?_); (first | ((repeat (first | exact hp | refine List.Mem.tail _ ?_)); done) | ((repeat refine List.Mem.tail _ ?_); first | exact hp))) | (refine List.mem_append.mpr (.inr ?_); (first | ((repeat (first | exact hp | refine List.Mem.tail _ ?_)); done) | ((repeat refine List.Mem.tail _ ?_); first | exact hp))))))))) hc) : ∀ p ∈ R3, p.1 ≠ 422 → p ∈ R5)
          replace gw := kw5 _ gw (Nat.ne_of_gt (Nat.lt_succ_of_lt (l2 _ tm)))
          replace gt := kw5 _ gt (Nat.ne_of_gt (Nat.lt_succ_of_lt (Nat.lt_succ_of_lt (l2 _ tm))))
          clear kc5 kw5 k4 kc4 k5 N4 U4 gM tab1 gt1 s5
          have es0 : ss = s0 :: ss0 := sorted_same ltKey_as (pm1.trans pm0.symm) pw1 pw0
          obtain ⟨y0, yr0, ey0, hy0⟩ := first_F (es0 ▸ fA8)
          subst ey0
          have hy5 := hy0
          obtain @⟨T0, _, u1, u2, u3, u4, u5, u6, un9, hT0⟩ := hy0
          obtain @⟨x8, dx8, _, k1, k2, k3, k4, k5, k6, t1, t2, t3, t4', t5', t6, n8, hxx8, hdx8⟩ := hv5
          (try clear Nn)
          (try dsimp only)
          (try k_fold)
          repeat' (first | (k_unfold; (try dsimp only)) | walk1 | (dsimp only; walk1) | (leave1; (try dsimp only)) | fail "no step")
          unfold Stop
          (rename News _ _ _ _ => Nn)
          (rename Fr _ _ _ _ => Fn)
          refine' same_ne (d := dat6 s0) Nn ?da8j ?db8j (dat6_ok 8 s0) ?du8j ?_
          case da8j => exact (FIn.mk (s := s0) (by (repeat (first | exact List.Mem.head _ | refine List.Mem.tail _ ?_)))).dat
          case db8j => exact (hy5.mono (fun p hp => by (first | ((repeat (first | exact hp | refine List.Mem.tail _ ?_)); done) | ((repeat refine List.Mem.tail _ ?_); first | exact hp | (refine List.mem_append.mpr (.inl ?_); (first | ((repeat (first | exact hp | refine List.Mem.tail _ ?_)); done) | ((repeat refine List.Mem.tail _ ?_); first | exact hp | (refine List.mem_append.mpr (.inl ?_); (first | ((repeat (first | exact hp | refine List.Mem.tail _ ?_)); done) | ((repeat refine List.Mem.tail _ ?_); first | exact hp))) | (refine List.mem_append.mpr (.inr ?_); (first | ((repeat (first | exact hp | refine List.Mem.tail _ ?_)); done) | ((repeat refine List.Mem.tail _ ?_); first | exact hp)))))) | (refine List.mem_append.mpr (.inr ?_); (first | ((repeat (first | exact hp | refine List.Mem.tail _ ?_)); done) | ((repeat refine List.Mem.tail _ ?_); first | exact hp | (refine List.mem_append.mpr (.inl ?_); (first | ((repeat (first | exact hp | refine List.Mem.tail _ ?_)); done) | ((repeat refine List.Mem.tail _ ?_); first | exact hp))) | (refine List.mem_append.mpr (.inr ?_); (first | ((repeat (first | exact hp | refine List.Mem.tail _ ?_)); done) | ((repeat refine List.Mem.tail _ ?_); first | exact hp)))))))))).dat
          case du8j => ke_room
          repeat' (first | (k_unfold; (try dsimp only)) | walk1 | (dsimp only; walk1) | (leave1; (try dsimp only)) | fail "no step")
          unfold Stop
          (rename News _ _ _ _ => Nn)
          (rename Fr _ _ _ _ => Fn)
          refine' LCg.CompSrc.ledger (by rfl) Fn Nn ?hm8j ?sz8j ?_
          case hm8j => (first | ((repeat (first | exact List.Mem.head _ | refine List.Mem.tail _ ?_)); done) | ((repeat refine List.Mem.tail _ ?_); first | assumption | (refine List.mem_append.mpr (.inl ?_); (first | ((repeat (first | exact List.Mem.head _ | refine List.Mem.tail _ ?_)); done) | ((repeat refine List.Mem.tail _ ?_); first | assumption | (refine List.mem_append.mpr (.inl ?_); (first | ((repeat (first | exact List.Mem.head _ | refine List.Mem.tail _ ?_)); done) | ((repeat refine List.Mem.tail _ ?_); first | assumption))) | (refine List.mem_append.mpr (.inr ?_); (first | ((repeat (first | exact List.Mem.head _ | refine List.Mem.tail _ ?_)); done) | ((repeat refine List.Mem.tail _ ?_); first | assumption)))))) | (refine List.mem_append.mpr (.inr ?_); (first | ((repeat (first | exact List.Mem.head _ | refine List.Mem.tail _ ?_)); done) | ((repeat refine List.Mem.tail _ ?_); first | assumption | (refine List.mem_append.mpr (.inl ?_); (first | ((repeat (first | exact List.Mem.head _ | refine List.Mem.tail _ ?_)); done) | ((repeat refine List.Mem.tail _ ?_); first | assumption))) | (refine List.mem_append.mpr (.inr ?_); (first | ((repeat (first | exact List.Mem.head _ | refine List.Mem.tail _ ?_)); done) | ((repeat refine List.Mem.tail _ ?_); first | assumption))))))))
          case sz8j => (have e9 := gF.length; rw [Array.length_toList] at e9; have e8 := (law_perm (named := nm != Str.ofString "") hp hwo).length_eq; have e7 := memSh_lt (wo := wo) (named := nm != Str.ofString "") hp; rw [sizeLine_eq]; omega)
          intro g8
          refine' comp_run (fun ii ys news => (∀ p ∈ R5, p ∈ news) ∧ IntsAre ys (((lawAll b i sc wo (nm != Str.ofString "")).take ii).map shLen)) ?turn8j ?fin8j _ 0 [] _ (Nat.add_zero _) ⟨fun p hp => ?in8j, .nil⟩
          case in8j => (first | ((repeat (first | exact hp | refine List.Mem.tail _ ?_)); done) | ((repeat refine List.Mem.tail _ ?_); first | exact hp | (refine List.mem_append.mpr (.inl ?_); (first | ((repeat (first | exact hp | refine List.Mem.tail _ ?_)); done) | ((repeat refine List.Mem.tail _ ?_); first | exact hp | (refine List.mem_append.mpr (.inl ?_); (first | ((repeat (first | exact hp | refine List.Mem.tail _ ?_)); done) | ((repeat refine List.Mem.tail _ ?_); first | exact hp))) | (refine List.mem_append.mpr (.inr ?_); (first | ((repeat (first | exact hp | refine List.Mem.tail _ ?_)); done) | ((repeat refine List.Mem.tail _ ?_); first | exact hp)))))) | (refine List.mem_append.mpr (.inr ?_); (first | ((repeat (first | exact hp | refine List.Mem.tail _ ?_)); done) | ((repeat refine List.Mem.tail _ ?_); first | exact hp | (refine List.mem_append.mpr (.inl ?_); (first | ((repeat (first | exact hp | refine List.Mem.tail _ ?_)); done) | ((repeat refine List.Mem.tail _ ?_); first | exact hp))) | (refine List.mem_append.mpr (.inr ?_); (first | ((repeat (first | exact hp | refine List.Mem.tail _ ?_)); done) | ((repeat refine List.Mem.tail _ ?_); first | exact hp))))))))
          case turn8j =>
            intro i8 v8 yr8 news8 I8 oI8 C8 oC8 D8 m8 h8 tk8 E8 hi8 hP8 hJ8 hC8 hx8 F8 N8 off8 ne8
            obtain ⟨sub8, fI8⟩ := hJ8
            obtain ⟨sh8, hsh8, hv8⟩ := gF.get1 (i := i8) (v := v8) (by simpa using hP8)
            have hv9 := hv8.mono sub8
            have gs8 := sub8 _ gq
            obtain @⟨T8, _, t1, t2, t3, t4', t5', t6, n8, hT8⟩ := hv8.mono sub8
            repeat' (first | (k_unfold; (try dsimp only)) | walk1 | (dsimp only; walk1) | (leave1; (try dsimp only)) | fail "no step")
            all_goals unfold Stop
            all_goals (refine' comp_end [] (by assumption) (by assumption) (by (repeat (first | exact List.Mem.head _ | refine List.Mem.tail _ ?_))) (by (repeat (first | exact List.Mem.head _ | refine List.Mem.tail _ ?_))) (by (repeat (first | exact List.Mem.head _ | refine List.Mem.tail _ ?_))) (by (first | (intro p hp; (repeat refine List.Mem.tail _ ?_); exact hp) | (intro p hp; ((repeat refine List.Mem.tail _ ?_); first | exact hp | (refine List.mem_append.mpr (.inl ?_); ((repeat refine List.Mem.tail _ ?_); first | exact hp | (refine List.mem_append.mpr (.inl ?_); ((repeat refine List.Mem.tail _ ?_); first | exact hp)) | (refine List.mem_append.mpr (.inr ?_); ((repeat refine List.Mem.tail _ ?_); first | exact hp)))) | (refine List.mem_append.mpr (.inr ?_); ((repeat refine List.Mem.tail _ ?_); first | exact hp | (refine List.mem_append.mpr (.inl ?_); ((repeat refine List.Mem.tail _ ?_); first | exact hp)) | (refine List.mem_append.mpr (.inr ?_); ((repeat refine List.Mem.tail _ ?_); first | exact hp)))))) | kcj_all)) no_sub off8 off_nil (src_led gs8) ⟨sub8, ints_snoc fI8 hsh8 rfl⟩)
          case fin8j =>
            intro yr8 news8 hJ8
            obtain ⟨sub8, fI8⟩ := hJ8
            rw [take_all gF] at fI8
            unfold LCg.FinE
            intro DM hM tkM FM NM oM
            clear oM
            (try dsimp only)
            repeat' (first | (k_unfold; (try dsimp only)) | walk1 | (dsimp only; walk1) | (leave1; (try dsimp only)) | fail "no step")
            unfold Stop
            (rename News _ _ _ _ => Nn)
            (rename Fr _ _ _ _ => Fn)
            refine' min_list_N (by rfl) Fn Nn (News.isList Nn (by (first | ((repeat (first | exact List.Mem.head _ | refine List.Mem.tail _ ?_)); done) | ((repeat refine List.Mem.tail _ ?_); first | assumption | (refine List.mem_append.mpr (.inl ?_); (first | ((repeat (first | exact List.Mem.head _ | refine List.Mem.tail _ ?_)); done) | ((repeat refine List.Mem.tail _ ?_); first | assumption | (refine List.mem_append.mpr (.inl ?_); (first | ((repeat (first | exact List.Mem.head _ | refine List.Mem.tail _ ?_)); done) | ((repeat refine List.Mem.tail _ ?_); first | assumption))) | (refine List.mem_append.mpr (.inr ?_); (first | ((repeat (first | exact List.Mem.head _ | refine List.Mem.tail _ ?_)); done) | ((repeat refine List.Mem.tail _ ?_); first | assumption)))))) | (refine List.mem_append.mpr (.inr ?_); (first | ((repeat (first | exact List.Mem.head _ | refine List.Mem.tail _ ?_)); done) | ((repeat refine List.Mem.tail _ ?_); first | assumption | (refine List.mem_append.mpr (.inl ?_); (first | ((repeat (first | exact List.Mem.head _ | refine List.Mem.tail _ ?_)); done) | ((repeat refine List.Mem.tail _ ?_); first | assumption))) | (refine List.mem_append.mpr (.inr ?_); (first | ((repeat (first | exact List.Mem.head _ | refine List.Mem.tail _ ?_)); done) | ((repeat refine List.Mem.tail _ ?_); first | assumption)))))))))) fI8 ?ne8j ?_
            case ne8j => (rw [List.length_map]; have e8 := (law_perm (named := nm != Str.ofString "") hp hwo).length_eq; have e7 := memSh_pos (wo := wo) (named := nm != Str.ofString "") hp; omega)
            intro hm9 M9 t9 tk9 F9 N9 hM1 hM2
            have eM := min_is hM1 hM2 (law_perm (named := nm != Str.ofString "") hp hwo) pm0 pw0
            subst eM
            clear hM1 hM2 Fn Nn
            obtain ⟨R6, N6, ne6, kd6, kn6⟩ := apartC N9 (by (first | ((repeat (first | exact (sub8 _ gt) | refine List.Mem.tail _ ?_)); done) | ((repeat refine List.Mem.tail _ ?_); first | exact (sub8 _ gt) | (refine List.mem_append.mpr (.inl ?_); (first | ((repeat (first | exact (sub8 _ gt) | refine List.Mem.tail _ ?_)); done) | ((repeat refine List.Mem.tail _ ?_); first | exact (sub8 _ gt) | (refine List.mem_append.mpr (.inl ?_); (first | ((repeat (first | exact (sub8 _ gt) | refine List.Mem.tail _ ?_)); done) | ((repeat refine List.Mem.tail _ ?_); first | exact (sub8 _ gt)))) | (refine List.mem_append.mpr (.inr ?_); (first | ((repeat (first | exact (sub8 _ gt) | refine List.Mem.tail _ ?_)); done) | ((repeat refine List.Mem.tail _ ?_); first | exact (sub8 _ gt))))))) | (refine List.mem_append.mpr (.inr ?_); (first | ((repeat (first | exact (sub8 _ gt) | refine List.Mem.tail _ ?_)); done) | ((repeat refine List.Mem.tail _ ?_); first | exact (sub8 _ gt) | (refine List.mem_append.mpr (.inl ?_); (first | ((repeat (first | exact (sub8 _ gt) | refine List.Mem.tail _ ?_)); done) | ((repeat refine List.Mem.tail _ ?_); first | exact (sub8 _ gt)))) | (refine List.mem_append.mpr (.inr ?_); (first | ((repeat (first | exact (sub8 _ gt) | refine List.Mem.tail _ ?_)); done) | ((repeat refine List.Mem.tail _ ?_); first | exact (sub8 _ gt))))))))) : (L2 + 1 + 1, oc1) ∈ _)
            clear N9
            rw [dt9] at kd6
            have kd5 := (fun p hp hc => kd6 p (by (first | ((repeat (first | exact (sub8 p hp) | refine List.Mem.tail _ ?_)); done) | ((repeat refine List.Mem.tail _ ?_); first | exact (sub8 p hp) | (refine List.mem_append.mpr (.inl ?_); (first | ((repeat (first | exact (sub8 p hp) | refine List.Mem.tail _ ?_)); done) | ((repeat refine List.Mem.tail _ ?_); first | exact (sub8 p hp) | (refine List.mem_append.mpr (.inl ?_); (first | ((repeat (first | exact (sub8 p hp) | refine List.Mem.tail _ ?_)); done) | ((repeat refine List.Mem.tail _ ?_); first | exact (sub8 p hp)))) | (refine List.mem_append.mpr (.inr ?_); (first | ((repeat (first | exact (sub8 p hp) | refine List.Mem.tail _ ?_)); done) | ((repeat refine List.Mem.tail _ ?_); first | exact (sub8 p hp))))))) | (refine List.mem_append.mpr (.inr ?_); (first | ((repeat (first | exact (sub8 p hp) | refine List.Mem.tail _ ?_)); done) | ((repeat refine List.Mem.tail _ ?_); first | exact (sub8 p hp) | (refine List.mem_append.mpr (.inl ?_); (first | ((repeat (first | exact (sub8 p hp) | refine List.Mem.tail _ ?_)); done) | ((repeat refine List.Mem.tail _ ?_); first | exact (sub8 p hp)))) | (refine List.mem_append.mpr (.inr ?_); (first | ((repeat (first | exact (sub8 p hp) | refine List.Mem.tail _ ?_)); done) | ((repeat refine List.Mem.tail _ ?_); first | exact (sub8 p hp)))))))))) hc : ∀ p ∈ R5, p.2.data ≠ .cell none → p ∈ R6)
            replace gS1 := gS1.kd kd5
            replace gs1 := kd5 _ gs1 (by simp)
            replace gD := kd5 _ gD (by simp)
            replace gt2 := kd5 _ gt2 tab_no
            replace gw := kn6 (L2 + 1, oc2) (.tail _ (sub8 _ gw)) (Nat.ne_of_lt (Nat.lt_succ_self (L2 + 1)))
            clear kd5 kd6 kn6 sub8 gt gF gq gf9 fA8 hy5 hT0 hxx8 hdx8
            (try dsimp only)
            repeat' (first | (k_unfold; (try dsimp only)) | walk1 | (dsimp only; walk1) | (leave1; (try dsimp only)) | fail "no step")
            all_goals (try exact absurd rfl (by assumption : shLen s0 ≠ shLen s0))
            unfold Stop
            (rename News _ _ _ _ => Nn)
            (rename Fr _ _ _ _ => Fn)
            (rename (Obj.data _ = _) => dT8)
            obtain ⟨R7, N7, s7, gU, gT⟩ := led_told (c := L2 + 1 + 1) Nn dT8 (by (first | ((repeat (first | exact List.Mem.head _ | refine List.Mem.tail _ ?_)); done) | ((repeat refine List.Mem.tail _ ?_); first | assumption | (refine List.mem_append.mpr (.inl ?_); (first | ((repeat (first | exact List.Mem.head _ | refine List.Mem.tail _ ?_)); done) | ((repeat refine List.Mem.tail _ ?_); first | assumption | (refine List.mem_append.mpr (.inl ?_); (first | ((repeat (first | exact List.Mem.head _ | refine List.Mem.tail _ ?_)); done) | ((repeat refine List.Mem.tail _ ?_); first | assumption))) | (refine List.mem_append.mpr (.inr ?_); (first | ((repeat (first | exact List.Mem.head _ | refine List.Mem.tail _ ?_)); done) | ((repeat refine List.Mem.tail _ ?_); first | assumption)))))) | (refine List.mem_append.mpr (.inr ?_); (first | ((repeat (first | exact List.Mem.head _ | refine List.Mem.tail _ ?_)); done) | ((repeat refine List.Mem.tail _ ?_); first | assumption | (refine List.mem_append.mpr (.inl ?_); (first | ((repeat (first | exact List.Mem.head _ | refine List.Mem.tail _ ?_)); done) | ((repeat refine List.Mem.tail _ ?_); first | assumption))) | (refine List.mem_append.mpr (.inr ?_); (first | ((repeat (first | exact List.Mem.head _ | refine List.Mem.tail _ ?_)); done) | ((repeat refine List.Mem.tail _ ?_); first | assumption))))))))) (by (first | ((repeat (first | exact List.Mem.head _ | refine List.Mem.tail _ ?_)); done) | ((repeat refine List.Mem.tail _ ?_); first | assumption | (refine List.mem_append.mpr (.inl ?_); (first | ((repeat (first | exact List.Mem.head _ | refine List.Mem.tail _ ?_)); done) | ((repeat refine List.Mem.tail _ ?_); first | assumption | (refine List.mem_append.mpr (.inl ?_); (first | ((repeat (first | exact List.Mem.head _ | refine List.Mem.tail _ ?_)); done) | ((repeat refine List.Mem.tail _ ?_); first | assumption))) | (refine List.mem_append.mpr (.inr ?_); (first | ((repeat (first | exact List.Mem.head _ | refine List.Mem.tail _ ?_)); done) | ((repeat refine List.Mem.tail _ ?_); first | assumption)))))) | (refine List.mem_append.mpr (.inr ?_); (first | ((repeat (first | exact List.Mem.head _ | refine List.Mem.tail _ ?_)); done) | ((repeat refine List.Mem.tail _ ?_); first | assumption | (refine List.mem_append.mpr (.inl ?_); (first | ((repeat (first | exact List.Mem.head _ | refine List.Mem.tail _ ?_)); done) | ((repeat refine List.Mem.tail _ ?_); first | assumption))) | (refine List.mem_append.mpr (.inr ?_); (first | ((repeat (first | exact List.Mem.head _ | refine List.Mem.tail _ ?_)); done) | ((repeat refine List.Mem.tail _ ?_); first | assumption)))))))))
            clear Nn
            have u7 : ∀ p ∈ R6, p ∈ R7 := fun p hp => s7 p (by (first | ((repeat (first | exact hp | refine List.Mem.tail _ ?_)); done) | ((repeat refine List.Mem.tail _ ?_); first | exact hp | (refine List.mem_append.mpr (.inl ?_); (first | ((repeat (first | exact hp | refine List.Mem.tail _ ?_)); done) | ((repeat refine List.Mem.tail _ ?_); first | exact hp | (refine List.mem_append.mpr (.inl ?_); (first | ((repeat (first | exact hp | refine List.Mem.tail _ ?_)); done) | ((repeat refine List.Mem.tail _ ?_); first | exact hp))) | (refine List.mem_append.mpr (.inr ?_); (first | ((repeat (first | exact hp | refine List.Mem.tail _ ?_)); done) | ((repeat refine List.Mem.tail _ ?_); first | exact hp)))))) | (refine List.mem_append.mpr (.inr ?_); (first | ((repeat (first | exact hp | refine List.Mem.tail _ ?_)); done) | ((repeat refine List.Mem.tail _ ?_); first | exact hp | (refine List.mem_append.mpr (.inl ?_); (first | ((repeat (first | exact hp | refine List.Mem.tail _ ?_)); done) | ((repeat refine List.Mem.tail _ ?_); first | exact hp))) | (refine List.mem_append.mpr (.inr ?_); (first | ((repeat (first | exact hp | refine List.Mem.tail _ ?_)); done) | ((repeat refine List.Mem.tail _ ?_); first | exact hp)))))))))
            replace gS1 := gS1.mono u7
            replace gs1 := u7 _ gs1
            replace gw := u7 _ gw
            replace gt2 := u7 _ gt2
            clear u7
            clear s7 gD
            (try clear ne6)
            refine' LCg.CompSrc.ledger (its := vs1.toList.toArray) (k := ns1) (by rfl) Fn N7 ?hm8j ?sz8j ?_
            case hm8j => exact gs1
            case sz8j => (rw [List.size_toArray, sizeLine_eq]; omega)
            intro g8
            refine' comp_run (n := vs1.toList.toArray.size) (fun ii ys news => (∀ p ∈ R7, p ∈ news) ∧ LSm.BoolsAre ys (List.replicate ii true)) ?turn8j ?fin8j _ 0 [] _ rfl ⟨fun p hp => hp, .nil⟩
            case turn8j =>
              intro i8 v8 ys8 news8 I8 oI8 C8 oC8 D8 m8 h8 tk8 E8 hi8 hP8 hJ8 hC8 hx8 F8 N8 off8 ne8
              obtain ⟨sub8, bA8⟩ := hJ8
              obtain ⟨sh8, hsh8, hv8⟩ := gS1.get (i := i8) (v := v8) (by simpa using hP8)
              have hmem8 := pm1.mem_iff.mp (List.mem_of_getElem? hsh8)
              obtain ⟨okm, okr, okx, okb, oks, okm2⟩ := memSh_ok hp hmem8
              have okm3 : 0 ≤ sh8.mod ∧ sh8.mod ≤ 3 := by omega
              have oks3 : sh8.rm = 4 → 0 ≤ sh8.sib ∧ sh8.sib < 256 := by omega
              have hv9 := hv8.mono sub8
              have gs8 := sub8 _ gs1
              have gw8 := sub8 _ gw
              have gU8 := sub8 _ gU
              have gT8 := sub8 _ gT
              clear okm oks hv8 gs1 gw gU gT gS1
              repeat' (first | (k_unfold; (try dsimp only)) | walk1 | (dsimp only; walk1) | (leave1; (try dsimp only)) | fail "no step")
              all_goals unfold Stop
              (rename News _ _ _ _ => Nn)
              refine' same_eq (d := dat8 b i sc wo 32 (Str.ofString "fs") (Str.ofString "")) Nn ?da8j ?db8j (dat8_ok (by decide +kernel) (by decide +kernel)) ?du8j ?_
              case da8j =>
                exact dat8_by okm2 (by (first | ((repeat (first | exact List.Mem.head _ | refine List.Mem.tail _ ?_)); done) | ((repeat refine List.Mem.tail _ ?_); first | assumption | (refine List.mem_append.mpr (.inl ?_); (first | ((repeat (first | exact List.Mem.head _ | refine List.Mem.tail _ ?_)); done) | ((repeat refine List.Mem.tail _ ?_); first | assumption | (refine List.mem_append.mpr (.inl ?_); (first | ((repeat (first | exact List.Mem.head _ | refine List.Mem.tail _ ?_)); done) | ((repeat refine List.Mem.tail _ ?_); first | assumption))) | (refine List.mem_append.mpr (.inr ?_); (first | ((repeat (first | exact List.Mem.head _ | refine List.Mem.tail _ ?_)); done) | ((repeat refine List.Mem.tail _ ?_); first | assumption)))))) | (refine List.mem_append.mpr (.inr ?_); (first | ((repeat (first | exact List.Mem.head _ | refine List.Mem.tail _ ?_)); done) | ((repeat refine List.Mem.tail _ ?_); first | assumption | (refine List.mem_append.mpr (.inl ?_); (first | ((repeat (first | exact List.Mem.head _ | refine List.Mem.tail _ ?_)); done) | ((repeat refine List.Mem.tail _ ?_); first | assumption))) | (refine List.mem_append.mpr (.inr ?_); (first | ((repeat (first | exact List.Mem.head _ | refine List.Mem.tail _ ?_)); done) | ((repeat refine List.Mem.tail _ ?_); first | assumption)))))))))
              case db8j =>
                exact dat8_in (by (first | ((repeat (first | exact List.Mem.head _ | refine List.Mem.tail _ ?_)); done) | ((repeat refine List.Mem.tail _ ?_); first | assumption | (refine List.mem_append.mpr (.inl ?_); (first | ((repeat (first | exact List.Mem.head _ | refine List.Mem.tail _ ?_)); done) | ((repeat refine List.Mem.tail _ ?_); first | assumption | (refine List.mem_append.mpr (.inl ?_); (first | ((repeat (first | exact List.Mem.head _ | refine List.Mem.tail _ ?_)); done) | ((repeat refine List.Mem.tail _ ?_); first | assumption))) | (refine List.mem_append.mpr (.inr ?_); (first | ((repeat (first | exact List.Mem.head _ | refine List.Mem.tail _ ?_)); done) | ((repeat refine List.Mem.tail _ ?_); first | assumption)))))) | (refine List.mem_append.mpr (.inr ?_); (first | ((repeat (first | exact List.Mem.head _ | refine List.Mem.tail _ ?_)); done) | ((repeat refine List.Mem.tail _ ?_); first | assumption | (refine List.mem_append.mpr (.inl ?_); (first | ((repeat (first | exact List.Mem.head _ | refine List.Mem.tail _ ?_)); done) | ((repeat refine List.Mem.tail _ ?_); first | assumption))) | (refine List.mem_append.mpr (.inr ?_); (first | ((repeat (first | exact List.Mem.head _ | refine List.Mem.tail _ ?_)); done) | ((repeat refine List.Mem.tail _ ?_); first | assumption))))))))) rfl rfl rfl
              case du8j => ke_room
              repeat' (first | (k_unfold; (try dsimp only)) | walk1 | (dsimp only; walk1) | (leave1; (try dsimp only)) | fail "no step")
              all_goals unfold Stop
              all_goals (refine' comp_end [] (by assumption) (by assumption) (by (first | ((repeat (first | exact List.Mem.head _ | refine List.Mem.tail _ ?_)); done) | ((repeat refine List.Mem.tail _ ?_); first | assumption | (refine List.mem_append.mpr (.inl ?_); (first | ((repeat (first | exact List.Mem.head _ | refine List.Mem.tail _ ?_)); done) | ((repeat refine List.Mem.tail _ ?_); first | assumption | (refine List.mem_append.mpr (.inl ?_); (first | ((repeat (first | exact List.Mem.head _ | refine List.Mem.tail _ ?_)); done) | ((repeat refine List.Mem.tail _ ?_); first | assumption))) | (refine List.mem_append.mpr (.inr ?_); (first | ((repeat (first | exact List.Mem.head _ | refine List.Mem.tail _ ?_)); done) | ((repeat refine List.Mem.tail _ ?_); first | assumption)))))) | (refine List.mem_append.mpr (.inr ?_); (first | ((repeat (first | exact List.Mem.head _ | refine List.Mem.tail _ ?_)); done) | ((repeat refine List.Mem.tail _ ?_); first | assumption | (refine List.mem_append.mpr (.inl ?_); (first | ((repeat (first | exact List.Mem.head _ | refine List.Mem.tail _ ?_)); done) | ((repeat refine List.Mem.tail _ ?_); first | assumption))) | (refine List.mem_append.mpr (.inr ?_); (first | ((repeat (first | exact List.Mem.head _ | refine List.Mem.tail _ ?_)); done) | ((repeat refine List.Mem.tail _ ?_); first | assumption))))))))) (by (first | ((repeat (first | exact List.Mem.head _ | refine List.Mem.tail _ ?_)); done) | ((repeat refine List.Mem.tail _ ?_); first | assumption | (refine List.mem_append.mpr (.inl ?_); (first | ((repeat (first | exact List.Mem.head _ | refine List.Mem.tail _ ?_)); done) | ((repeat refine List.Mem.tail _ ?_); first | assumption | (refine List.mem_append.mpr (.inl ?_); (first | ((repeat (first | exact List.Mem.head _ | refine List.Mem.tail _ ?_)); done) | ((repeat refine List.Mem.tail _ ?_); first | assumption))) | (refine List.mem_append.mpr (.inr ?_); (first | ((repeat (first | exact List.Mem.head _ | refine List.Mem.tail _ ?_)); done) | ((repeat refine List.Mem.tail _ ?_); first | assumption)))))) | (refine List.mem_append.mpr (.inr ?_); (first | ((repeat (first | exact List.Mem.head _ | refine List.Mem.tail _ ?_)); done) | ((repeat refine List.Mem.tail _ ?_); first | assumption | (refine List.mem_append.mpr (.inl ?_); (first | ((repeat (first | exact List.Mem.head _ | refine List.Mem.tail _ ?_)); done) | ((repeat refine List.Mem.tail _ ?_); first | assumption))) | (refine List.mem_append.mpr (.inr ?_); (first | ((repeat (first | exact List.Mem.head _ | refine List.Mem.tail _ ?_)); done) | ((repeat refine List.Mem.tail _ ?_); first | assumption))))))))) (by (first | ((repeat (first | exact List.Mem.head _ | refine List.Mem.tail _ ?_)); done) | ((repeat refine List.Mem.tail _ ?_); first | assumption | (refine List.mem_append.mpr (.inl ?_); (first | ((repeat (first | exact List.Mem.head _ | refine List.Mem.tail _ ?_)); done) | ((repeat refine List.Mem.tail _ ?_); first | assumption | (refine List.mem_append.mpr (.inl ?_); (first | ((repeat (first | exact List.Mem.head _ | refine List.Mem.tail _ ?_)); done) | ((repeat refine List.Mem.tail _ ?_); first | assumption))) | (refine List.mem_append.mpr (.inr ?_); (first | ((repeat (first | exact List.Mem.head _ | refine List.Mem.tail _ ?_)); done) | ((repeat refine List.Mem.tail _ ?_); first | assumption)))))) | (refine List.mem_append.mpr (.inr ?_); (first | ((repeat (first | exact List.Mem.head _ | refine List.Mem.tail _ ?_)); done) | ((repeat refine List.Mem.tail _ ?_); first | assumption | (refine List.mem_append.mpr (.inl ?_); (first | ((repeat (first | exact List.Mem.head _ | refine List.Mem.tail _ ?_)); done) | ((repeat refine List.Mem.tail _ ?_); first | assumption))) | (refine List.mem_append.mpr (.inr ?_); (first | ((repeat (first | exact List.Mem.head _ | refine List.Mem.tail _ ?_)); done) | ((repeat refine List.Mem.tail _ ?_); first | assumption))))))))) (by (first | (intro p hp; (repeat refine List.Mem.tail _ ?_); exact hp) | (intro p hp; ((repeat refine List.Mem.tail _ ?_); first | exact hp | (refine List.mem_append.mpr (.inl ?_); ((repeat refine List.Mem.tail _ ?_); first | exact hp | (refine List.mem_append.mpr (.inl ?_); ((repeat refine List.Mem.tail _ ?_); first | exact hp)) | (refine List.mem_append.mpr (.inr ?_); ((repeat refine List.Mem.tail _ ?_); first | exact hp)))) | (refine List.mem_append.mpr (.inr ?_); ((repeat refine List.Mem.tail _ ?_); first | exact hp | (refine List.mem_append.mpr (.inl ?_); ((repeat refine List.Mem.tail _ ?_); first | exact hp)) | (refine List.mem_append.mpr (.inr ?_); ((repeat refine List.Mem.tail _ ?_); first | exact hp)))))) | kcj_all)) no_sub off8 off_nil (src_led gs8) ⟨sub8, bools_snoc bA8⟩)
            case fin8j =>
              intro yr8 news8 hJ8
              obtain ⟨sub8, bA8⟩ := hJ8
              replace gt2 := sub8 _ gt2
              unfold LCg.FinE
              intro DM hM tkM FM NM oM
              clear oM
              (try dsimp only)
              repeat' (first | (k_unfold; (try dsimp only)) | walk1 | (dsimp only; walk1) | (leave1; (try dsimp only)) | fail "no step")
              unfold Stop
              (rename News _ _ _ _ => Nn)
              (rename Fr _ _ _ _ => Fn)
              refine' LSm.all_bools Fn Nn (by rfl) (News.isList Nn (by (first | ((repeat (first | exact List.Mem.head _ | refine List.Mem.tail _ ?_)); done) | ((repeat refine List.Mem.tail _ ?_); first | assumption | (refine List.mem_append.mpr (.inl ?_); (first | ((repeat (first | exact List.Mem.head _ | refine List.Mem.tail _ ?_)); done) | ((repeat refine List.Mem.tail _ ?_); first | assumption | (refine List.mem_append.mpr (.inl ?_); (first | ((repeat (first | exact List.Mem.head _ | refine List.Mem.tail _ ?_)); done) | ((repeat refine List.Mem.tail _ ?_); first | assumption))) | (refine List.mem_append.mpr (.inr ?_); (first | ((repeat (first | exact List.Mem.head _ | refine List.Mem.tail _ ?_)); done) | ((repeat refine List.Mem.tail _ ?_); first | assumption)))))) | (refine List.mem_append.mpr (.inr ?_); (first | ((repeat (first | exact List.Mem.head _ | refine List.Mem.tail _ ?_)); done) | ((repeat refine List.Mem.tail _ ?_); first | assumption | (refine List.mem_append.mpr (.inl ?_); (first | ((repeat (first | exact List.Mem.head _ | refine List.Mem.tail _ ?_)); done) | ((repeat refine List.Mem.tail _ ?_); first | assumption))) | (refine List.mem_append.mpr (.inr ?_); (first | ((repeat (first | exact List.Mem.head _ | refine List.Mem.tail _ ?_)); done) | ((repeat refine List.Mem.tail _ ?_); first | assumption)))))))))) bA8 ?_
              intro h9 tk9 F9 N9
              rw [all_rep]
              (try clear Fn Nn)
              repeat' (first | (k_unfold; (try dsimp only)) | walk1 | (dsimp only; walk1) | (leave1; (try dsimp only)) | fail "no step")
              all_goals exact hret _ _ _ (by assumption) (tab_led (by assumption) (by (first | ((repeat (first | exact List.Mem.head _ | refine List.Mem.tail _ ?_)); done) | ((repeat refine List.Mem.tail _ ?_); first | assumption | (refine List.mem_append.mpr (.inl ?_); (first | ((repeat (first | exact List.Mem.head _ | refine List.Mem.tail _ ?_)); done) | ((repeat refine List.Mem.tail _ ?_); first | assumption | (refine List.mem_append.mpr (.inl ?_); (first | ((repeat (first | exact List.Mem.head _ | refine List.Mem.tail _ ?_)); done) | ((repeat refine List.Mem.tail _ ?_); first | assumption))) | (refine List.mem_append.mpr (.inr ?_); (first | ((repeat (first | exact List.Mem.head _ | refine List.Mem.tail _ ?_)); done) | ((repeat refine List.Mem.tail _ ?_); first | assumption)))))) | (refine List.mem_append.mpr (.inr ?_); (first | ((repeat (first | exact List.Mem.head _ | refine List.Mem.tail _ ?_)); done) | ((repeat refine List.Mem.tail _ ?_); first | assumption | (refine List.mem_append.mpr (.inl ?_); (first | ((repeat (first | exact List.Mem.head _ | refine List.Mem.tail _ ?_)); done) | ((repeat refine List.Mem.tail _ ?_); first | assumption))) | (refine List.mem_append.mpr (.inr ?_); (first | ((repeat (first | exact List.Mem.head _ | refine List.Mem.tail _ ?_)); done) | ((repeat refine List.Mem.tail _ ?_); first | assumption))))))))))
    )
  clear q_gpr q_word q_mkmem7 q_rip q_lmem q_extbit q_needs q_pack q_shift q_sibfor q_fits8 q_widthsfor q_modof q_mkshape q_based q_width q_meaning q_unpack q_mkmem6 q_memof q_means q_needless q_hasneed q_told q_tidy q_bears q_all q_len6 q_isaddr q_ckbase q_ckidx q_fits32 q_ckmem q_memsh q_least
  have os : Own 7 := ⟨trivial⟩
  (rename IntsAre _ _ => hi9)
  have hn9 := len63 hi9 (by omega)
  all_goals (try k_fold)
  repeat' (first | (k_unfold; (try dsimp only)) | walk1 | (dsimp only; walk1) | (leave1; (try dsimp only)) | fail "no step")
  all_goals unfold Stop
  all_goals (rename News _ _ _ _ => Nn)
  all_goals (rename Fr _ _ _ _ => Fn)
  all_goals (obtain ⟨R0, N0, U0, k0, kc0, k2⟩ := apart2 Nn (by (first | ((repeat (first | exact List.Mem.head _ | refine List.Mem.tail _ ?_)); done) | ((repeat refine List.Mem.tail _ ?_); first | assumption | (refine List.mem_append.mpr (.inl ?_); (first | ((repeat (first | exact List.Mem.head _ | refine List.Mem.tail _ ?_)); done) | ((repeat refine List.Mem.tail _ ?_); first | assumption | (refine List.mem_append.mpr (.inl ?_); (first | ((repeat (first | exact List.Mem.head _ | refine List.Mem.tail _ ?_)); done) | ((repeat refine List.Mem.tail _ ?_); first | assumption))) | (refine List.mem_append.mpr (.inr ?_); (first | ((repeat (first | exact List.Mem.head _ | refine List.Mem.tail _ ?_)); done) | ((repeat refine List.Mem.tail _ ?_); first | assumption)))))) | (refine List.mem_append.mpr (.inr ?_); (first | ((repeat (first | exact List.Mem.head _ | refine List.Mem.tail _ ?_)); done) | ((repeat refine List.Mem.tail _ ?_); first | assumption | (refine List.mem_append.mpr (.inl ?_); (first | ((repeat (first | exact List.Mem.head _ | refine List.Mem.tail _ ?_)); done) | ((repeat refine List.Mem.tail _ ?_); first | assumption))) | (refine List.mem_append.mpr (.inr ?_); (first | ((repeat (first | exact List.Mem.head _ | refine List.Mem.tail _ ?_)); done) | ((repeat refine List.Mem.tail _ ?_); first | assumption)))))))) : (422, tabObj #[]) ∈ _))
  all_goals (rename CodeHd _ _ _ => hG9)
  all_goals (k_dflt (refine' cllx_use (C_right.use q_right (news := (422, tabObj #[]) :: R0) ?hD9j ?hp9j ?hw9j) ?k1j Fn ?k3j N0 U0 .fresh ?k5j hG9 ?k6j ?k7j ?k8j ?_; (case hp9j => assumption); (case hD9j => exact List.Mem.tail _ (kc0 _ (by (first | ((repeat (first | exact List.Mem.head _ | refine List.Mem.tail _ ?_)); done) | ((repeat refine List.Mem.tail _ ?_); first | assumption | (refine List.mem_append.mpr (.inl ?_); (first | ((repeat (first | exact List.Mem.head _ | refine List.Mem.tail _ ?_)); done) | ((repeat refine List.Mem.tail _ ?_); first | assumption | (refine List.mem_append.mpr (.inl ?_); (first | ((repeat (first | exact List.Mem.head _ | refine List.Mem.tail _ ?_)); done) | ((repeat refine List.Mem.tail _ ?_); first | assumption))) | (refine List.mem_append.mpr (.inr ?_); (first | ((repeat (first | exact List.Mem.head _ | refine List.Mem.tail _ ?_)); done) | ((repeat refine List.Mem.tail _ ?_); first | assumption)))))) | (refine List.mem_append.mpr (.inr ?_); (first | ((repeat (first | exact List.Mem.head _ | refine List.Mem.tail _ ?_)); done) | ((repeat refine List.Mem.tail _ ?_); first | assumption | (refine List.mem_append.mpr (.inl ?_); (first | ((repeat (first | exact List.Mem.head _ | refine List.Mem.tail _ ?_)); done) | ((repeat refine List.Mem.tail _ ?_); first | assumption))) | (refine List.mem_append.mpr (.inr ?_); (first | ((repeat (first | exact List.Mem.head _ | refine List.Mem.tail _ ?_)); done) | ((repeat refine List.Mem.tail _ ?_); first | assumption))))))))) (by simp [tup]))); (case hw9j => first | exact worth10 _ _ | fail "worth"); (case k1j => k_asm); (case k3j => k_asm); (case k5j => k_asm); (case k6j => first | exact rfl | assumption); (case k7j => first | omega | ktr_room); (case k8j => first | omega | ktr_units)))
  all_goals intro h9 tk9 ps9 F9 N9
  all_goals clear Nn Fn N0 U0 k0 kc0 k2
  all_goals (try dsimp only)
  k_steps
  all_goals (try k_data)
  all_goals w_report
end
end Mine
theorem PySem.Challenge.cw_pb0421_01_holds : PySem.Challenge.rw_pb0421_01.Holds := by
  exact Mine.x0
