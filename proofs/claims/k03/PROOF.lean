import PyProof.Rows.All
import Wide.All
import OpenK.AllK
import Wide.FinOn
import KE.KStateDown
import HandS.ForMost
import HandS.Exc
import HandS.TryOnly
import HandS.ExcOwn
import HandS.WordsExc
import HandS.Defaults
import HandS.Wide
import HandS.IsInst
import HandS.EndBits
import HandS.TupLe
import HandS.Rev
import HandS.Codes
import HandS.Head0
import HandS.Head1
import HandS.Head2
import HandS.HeadEnd
import HandS.HeadHook1
import HandS.HeadHook2
import PySem.Challenge.RW_lampcues_k03_stand
set_option Elab.async false
set_option linter.all false
set_option maxRecDepth 100000
set_option maxHeartbeats 4000000
namespace L2
open PySem PySem.Spec PyProof.Rows
/-! ### own rules, own words -/
/-- a law's end by facts, with the script's bits and the only tracked thing told -/
theorem walk_ofEB {l : PySem.W.OpenLaw} {n k : Nat} {q : Program} {loose : List Str} {XP : (Str → Option Value) → Heap → Prop} {YP : World → Heap → Prop} {d : DefRec} {CX : CXT} {x : Str}
    (hn : l.most = some n) (hn2 : n ≤ sizeLine) (hdf : d.params.defaults = []) (hr : Room k callerA)
    (F : ∀ (w : World) (mg : Str → Option Value) (fa : Addr) (h : Heap), YP w h → h.Ns mainGlobals mg → mg d.name = some (.ref fa) →
      ∃ (K : PySem.W.Frag) (fd : FuncData) (sp : Sp), K.In h ∧ (∀ (s : Shared) (u : Value), BindsTo s fd ⟨[u], []⟩ [(x, u)]) ∧
        (∀ (H : Hp) (a : Addr) (ns : List Int), ns.length ≤ n → (∀ z ∈ ns, Builtin.Int.intBits z ≤ 1048576) → Only H → SqL K H a (ns.map V.int) → sp [.ref a] H (fun v _ => v = .bl true) fun _ _ _ => False) ∧
        ∀ base : Heap, K.In base → base.Ns mainGlobals mg → FnOk l.prog w K mg base CX k fa fd [x] sp)
    (hCX : ∀ (H : Hp) (s : Shared) (e : Value) (s' : Shared), CX [] H s (fun _ _ _ => False) e s' → False) :
    PySem.W.WalkO q loose XP YP l.row.toRowW d [] (fun f vs => PySem.call f vs) := by
  refine Att.attach_callB hn hdf fun w s₀ s₁ mg mb fa o pm cd doc a vs ns G Y ho hd hcd hmg hobj hints hlen hbits hg => ?_
  obtain ⟨K, fd, sp, KX, hb, hsp, hF⟩ := F w mg fa _ Y G.T.g hmg
  exact law_call KX G.T.g G.T.b G.T.builtins G.T.nolimit hg hobj hints (Nat.le_trans hlen hn2) hr hF hb (fun H hO hS => hsp H a ns hlen hbits hO hS) fun H e s' => hCX H s₁ e s'
section
variable {X : Cx}
/-- a written power -/
theorem pe_powC {i j v : Int} {a b : Nat} {p1 p2 pos : Pos} (e : i ^ j.toNat = v) (h : 0 ≤ j ∧ j ≤ 1000000 ∧ i.natAbs < 2 ^ 64) : PE X (.BinOp (.Constant (.int i) a p1) .Pow (.Constant (.int j) b p2) pos) (tC (.int v)) := by
  subst e
  refine ⟨fun pins s σ H Q I q => ?_⟩
  exact (pe_op (X := X) op_pow pe_int pe_int).run pins s σ H Q I ⟨i, j, rfl, rfl, h, q⟩
/-- a written negative number -/
theorem pe_negC {i : Int} {a : Nat} {p1 pos : Pos} : PE X (.UnaryOp .USub (.Constant (.int i) a p1) pos) (tC (.int (-i))) := by
  refine ⟨fun pins s σ H Q I q => ?_⟩
  exact (pe_un (X := X) un_neg pe_int).run pins s σ H Q I ⟨i, rfl, q⟩
end
theorem iteD {c A B : Prop} [Decidable c] (h1 : c → A) (h2 : ¬ c → B) : if decide c = true then A else B := by
  by_cases h : c
  · rw [if_pos (decide_eq_true h)]
    exact h1 h
  · rw [if_neg (by rw [decide_eq_false h]; exact Bool.false_ne_true)]
    exact h2 h
theorem iteND {c A B : Prop} [Decidable c] (h1 : ¬ c → A) (h2 : c → B) : if (!decide c) = true then A else B := by
  by_cases h : c
  · rw [decide_eq_true h]
    exact iteF (h2 h)
  · rw [decide_eq_false h]
    exact iteT (h1 h)
theorem iteV {a b : Int} {A B : Prop} (h1 : a = b → A) (h2 : a ≠ b → B) : if decide (V.int a = V.int b) = true then A else B :=
  iteD (fun e => h1 (V.int.inj e)) fun e => h2 fun q => e (congrArg V.int q)
theorem iteNV {a b : Int} {A B : Prop} (h1 : a ≠ b → A) (h2 : a = b → B) : if (!decide (V.int a = V.int b)) = true then A else B :=
  iteND (fun e => h1 fun q => e (congrArg V.int q)) fun e => h2 (V.int.inj e)
theorem iteB {b : Bool} {A B : Prop} (h1 : b = true → A) (h2 : b = false → B) : if b = true then A else B := by
  cases b with
  | true => exact iteT (h1 rfl)
  | false => exact iteF (h2 rfl)
theorem iteDT {c A B : Prop} [Decidable c] (h : c) (h1 : A) : if decide c = true then A else B := iteD (fun _ => h1) fun q => absurd h q
theorem iteDF {c A B : Prop} [Decidable c] (h : ¬ c) (h1 : B) : if decide c = true then A else B := iteD (fun q => absurd q h) fun _ => h1
theorem iteVT {a b : Int} {A B : Prop} (h : a = b) (h1 : A) : if decide (V.int a = V.int b) = true then A else B := iteV (fun _ => h1) fun q => absurd h q
theorem iteVF {a b : Int} {A B : Prop} (h : a ≠ b) (h1 : B) : if decide (V.int a = V.int b) = true then A else B := iteV (fun q => absurd q h) fun _ => h1
theorem iteNVF {a b : Int} {A B : Prop} (h : a = b) (h1 : B) : if (!decide (V.int a = V.int b)) = true then A else B := iteNV (fun q => absurd h q) fun _ => h1
theorem qT {Q : VK} {H : Hp} {c : Prop} [Decidable c] (h : c) (k : Q (.bl true) H) : Q (.bl (decide c)) H := by
  rw [decide_eq_true h]
  exact k
theorem qF {Q : VK} {H : Hp} {c : Prop} [Decidable c] (h : ¬ c) (k : Q (.bl false) H) : Q (.bl (decide c)) H := by
  rw [decide_eq_false h]
  exact k
theorem cut_ints (ns : List Int) (lo hi : Option Int) : ∃ ms : List Int, cutV (ns.map V.int) lo hi = ms.map V.int ∧ ms.length ≤ ns.length ∧ ∀ z ∈ ms, z ∈ ns := by
  refine ⟨(ns.drop (HT.sIx (ns.map V.int).length 0 lo)).take (HT.sIx (ns.map V.int).length (ns.map V.int).length hi - HT.sIx (ns.map V.int).length 0 lo), ?_, ?_, ?_⟩
  · unfold cutV
    rw [List.map_take, List.map_drop]
  · rw [List.length_take, List.length_drop]
    omega
  · intro z hz
    exact List.mem_of_mem_drop (List.mem_of_mem_take hz)
theorem int_at {ns : List Int} {i : Nat} {y : V} (h : (ns.map V.int)[i]? = some y) : ∃ z, y = V.int z ∧ ns[i]? = some z ∧ i < ns.length := by
  rw [List.getElem?_map] at h
  cases e : ns[i]? with
  | none =>
    rw [e] at h
    cases h
  | some z =>
    rw [e] at h
    exact ⟨z, (Option.some.inj h).symm, rfl, (List.getElem?_eq_some_iff.mp e).1⟩
theorem atI_lt {xs : List V} {k : Int} (h0 : 0 ≤ k) (h1 : k < xs.length) : ∃ v, atI xs k = some v ∧ xs[k.toNat]? = some v := by
  have hl : k.toNat < xs.length := by omega
  refine ⟨xs[k.toNat], ?_, List.getElem?_eq_getElem hl⟩
  obtain ⟨n, rfl⟩ : ∃ n : Nat, k = n := ⟨k.toNat, by omega⟩
  exact atI_nat (List.getElem?_eq_getElem hl)
theorem at2 {a b k : Int} (h0 : 0 ≤ k) (h1 : k < 2) : ∃ v, atI [V.int a, V.int b] k = some (V.int v) ∧ ((k = 0 ∧ v = a) ∨ (k = 1 ∧ v = b)) := by
  rcases (by omega : k = 0 ∨ k = 1) with rfl | rfl
  · exact ⟨a, rfl, .inl ⟨rfl, rfl⟩⟩
  · exact ⟨b, rfl, .inr ⟨rfl, rfl⟩⟩
theorem at3 {a b c k : Int} (h0 : 0 ≤ k) (h1 : k < 3) : ∃ v, atI [V.int a, V.int b, V.int c] k = some (V.int v) ∧ ((k = 0 ∧ v = a) ∨ (k = 1 ∧ v = b) ∨ (k = 2 ∧ v = c)) := by
  rcases (by omega : k = 0 ∨ k = 1 ∨ k = 2) with rfl | rfl | rfl
  · exact ⟨a, rfl, .inl ⟨rfl, rfl⟩⟩
  · exact ⟨b, rfl, .inr (.inl ⟨rfl, rfl⟩)⟩
  · exact ⟨c, rfl, .inr (.inr ⟨rfl, rfl⟩)⟩
/-- a call that writes all parameters, the last ones by name -/
theorem kb_all {K : PySem.W.Frag} {x qual : Str} {params : Arguments} {body : List Stmt} {scope : Scope} {dvs : List V} {kws : List (Str × V)} {f : Addr} {fd : FuncData} {ps : List Str} (F : FunD K x qual params body scope dvs kws f fd) (n : Nat) (ks : List Str) (hd : dvs ≠ [])
    (h : ∀ (T : Addr) (kV doc pm : Value) (an : Option Addr) (cdv ct : Value) (us its ws : List Value), us.length = n → its.length = dvs.length → ws.length = ks.length →
      ∃ k, bindArgs (PySem.W.fnOf x qual params body scope (.ref T) kV doc pm an cdv ct) ⟨us, ks.zip ws⟩ = seqItems? (.ref T) >>= k ∧ k (some its.toArray) = pure (ps.zip (us ++ ws))) : KBn K fd ps n ks (fun us ws => us ++ ws) (fun vs zs => vs ++ zs) := by
  obtain ⟨oc, od, dV, kV, doc, pm, an, cdv, ct, osl, rfl, lk, hcd, hD, _⟩ := F.ex
  rcases hD with ⟨e, _⟩ | ⟨_, T, o, its, m, rfl, lT, oT, rT⟩
  · exact absurd e hd
  · refine ⟨fun s us ws X h1 h2 => ?_, fun r1 r2 => r1.append r2⟩
    obtain ⟨k, e1, e2⟩ := h T kV doc pm an cdv ct us its ws h1 rT.length.symm h2
    refine BindsTo.of_looks fun M => ?_
    rw [e1]
    exact looks_items X lT oT (.of_pure e2)
theorem FunD.fd_eq {K : PySem.W.Frag} {x qual : Str} {params : Arguments} {body : List Stmt} {scope : Scope} {dvs : List V} {kws : List (Str × V)} {f : Addr} {fd fd' : FuncData} (F : FunD K x qual params body scope dvs kws f fd) (F' : FunD K x qual params body scope dvs kws f fd') : fd = fd' := by
  obtain ⟨_, _, _, _, _, _, _, _, _, _, _, l, _⟩ := F.ex
  obtain ⟨_, _, _, _, _, _, _, _, _, _, _, l', _⟩ := F'.ex
  rw [l] at l'
  simp only [Option.some.injEq, Obj.mk.injEq, Data.func.injEq] at l'
  exact l'.2.2.1
theorem small_size {n : Nat} (h : n ≤ 100000) : n ≤ sizeLine := Nat.le_trans h (by decide)
theorem Same.new {H H' : Hp} {p : Addr} {o : HO} (e : Same H H') (h : H' p = none) : Same H (upd H' p o) := fun a u q => by
  rw [upd_ne (ne_of_none (e a u q) h)]
  exact e a u q
theorem Same.mut {H H' : Hp} {p : Addr} {o : HO} (e : Same H H') (h : H p = none) : Same H (upd H' p o) := fun a u q => by
  rw [upd_ne (ne_of_none q h)]
  exact e a u q
end L2
/-! ### the words of a reading: sd a side condition, rd one step, rds as many as go by themselves, ri a test -/
local macro_rules | `(tactic| walk_at "sd") => `(tactic| first
  | omega
  | (show (0 : Int) < _; omega)
  | (show (0 : Int) ≤ _; omega)
  | exact .inl ⟨by omega, by omega⟩
  | exact .inr ⟨by omega, by omega⟩
  | exact ⟨by decide, by decide⟩
  | exact ⟨by omega, by omega⟩
  | exact L2.small_size (Nat.le_of_ble_eq_true rfl))
local macro_rules | `(tactic| walk_at "rd") => `(tactic| first
  | refine ⟨_, rfl, ?_⟩
  | refine ⟨_, _, rfl, rfl, ?_⟩
  | refine ⟨_, _, rfl, ?_⟩
  | refine ⟨_, _, _, rfl, ?_⟩
  | refine ⟨_, _, _, _, rfl, ?_⟩
  | refine ⟨_, _, _, _, _, rfl, ?_⟩
  | refine ⟨_, _, _, _, _, _, rfl, ?_⟩
  | refine ⟨rfl, ?_⟩
  | refine L2.iteF ?_
  | refine L2.iteT ?_
  | refine And.intro (by walk_at "sd") ?_
  | refine ⟨_, _, _, _, true, rfl, .ty _, .base (.int _), L2.kit_ty (by decide +kernel), ?_⟩
  | refine ⟨_, _, _, _, false, rfl, .ty _, .base (.int _), L2.kit_ty (by decide +kernel), ?_⟩)
local macro_rules | `(tactic| walk_at "rds") => `(tactic| repeat walk_at "rd")
local macro_rules | `(tactic| walk_at "ri") => `(tactic| first
  | refine L2.iteV ?_ ?_
  | refine L2.iteNV ?_ ?_
  | refine L2.iteD ?_ ?_
  | refine L2.iteND ?_ ?_
  | refine L2.iteB ?_ ?_)
local macro_rules | `(tactic| walk_at "nf") => `(tactic| try dsimp only [L2.start, List.set_cons_zero, List.set_cons_succ])
namespace G94
open PySem PySem.Spec PyProof.Rows L2
def top (i : Nat) : Stmt := PySem.Challenge.pw_lampcues_k03_stand.main.body.getD i (.Pass ⟨0, 0, 0, 0⟩)
abbrev s_stand : Stmt := top 1
theorem sc_stand : FnScope ["start", "end", "length", "top", "bottom", "steps"] ["start", "end", "length", "top", "bottom"] (defScope s_stand) := ⟨rfl, rfl, rfl, by decide +kernel, rfl, by decide +kernel, by decide +kernel⟩
abbrev s_l_draw : Stmt := top 5
theorem sc_l_draw : FnScope ["_law_cell", "_law_place", "_law_own", "_law_number"] ["_law_cell", "_law_place"] (defScope s_l_draw) := ⟨rfl, rfl, rfl, by decide +kernel, rfl, by decide +kernel, by decide +kernel⟩
abbrev s_l_far : Stmt := top 6
theorem sc_l_far : FnScope ["_law_cell", "_law_place", "_law_number"] ["_law_cell", "_law_place"] (defScope s_l_far) := ⟨rfl, rfl, rfl, by decide +kernel, rfl, by decide +kernel, by decide +kernel⟩
abbrev s_l_whole : Stmt := top 4
theorem sc_l_whole : FnScope ["_law_found"] ["_law_found"] (defScope s_l_whole) := ⟨rfl, rfl, rfl, by decide +kernel, rfl, by decide +kernel, by decide +kernel⟩
abbrev s_l_question : Stmt := top 7
theorem sc_l_question : FnScope ["_law_cell", "_law_most", "_law_start", "_law_end", "_law_length", "_law_lower", "_law_whole_here", "_law_way", "_law_top"] ["_law_cell"] (defScope s_l_question) := ⟨rfl, rfl, rfl, by decide +kernel, rfl, by decide +kernel, by decide +kernel⟩
abbrev s_l_right : Stmt := top 8
theorem sc_l_right : FnScope ["_law_found", "_law_start", "_law_end", "_law_length", "_law_top", "_law_lower", "_law_gone", "_law_way"] ["_law_found", "_law_start", "_law_end", "_law_length", "_law_top", "_law_lower"] (defScope s_l_right) := ⟨rfl, rfl, rfl, by decide +kernel, rfl, by decide +kernel, by decide +kernel⟩
abbrev s_law : Stmt := top 9
theorem sc_law : FnScope ["_law_script", "_law_cell", "_law_start", "_law_end", "_law_length", "_law_top", "_law_lower", "_law_found"] ["_law_script"] (defScope s_law) := ⟨rfl, rfl, rfl, by decide +kernel, rfl, by decide +kernel, by decide +kernel⟩
def d_stand : He.DefD := ⟨("stand", none), "stand", "stand", defArgs s_stand, defBody s_stand, defScope s_stand, [.int 1], []⟩
def d_l_draw : He.DefD := ⟨("_law_draw", none), "_law_draw", "_law_draw", defArgs s_l_draw, defBody s_l_draw, defScope s_l_draw, [], []⟩
def d_l_far : He.DefD := ⟨("_law_far", none), "_law_far", "_law_far", defArgs s_l_far, defBody s_l_far, defScope s_l_far, [], []⟩
def d_l_whole : He.DefD := ⟨("_law_whole", none), "_law_whole", "_law_whole", defArgs s_l_whole, defBody s_l_whole, defScope s_l_whole, [], []⟩
def d_l_question : He.DefD := ⟨("_law_question", none), "_law_question", "_law_question", defArgs s_l_question, defBody s_l_question, defScope s_l_question, [], []⟩
def d_l_right : He.DefD := ⟨("_law_right", none), "_law_right", "_law_right", defArgs s_l_right, defBody s_l_right, defScope s_l_right, [], []⟩
def d_law : He.DefD := ⟨("law", none), "law", "law", defArgs s_law, defBody s_law, defScope s_law, [], []⟩
def fn : List He.DefD := [d_stand, d_l_draw, d_l_far, d_l_whole, d_l_question, d_l_right, d_law]
def fa : List He.Fa := [.glo "stand", .glo "_law_draw", .glo "_law_far", .glo "_law_whole", .glo "_law_question", .glo "_law_right", .glo "law", .free "len", .free "abs", .free "max", .free "sum", .free "isinstance", .free "int", .free "bool", .free "min"]
/-- what the top leaves -/
structure Txt (K : PySem.W.Frag) (mg : Str → Option Value) : Prop where
  c : He.SaysD fa fn K
  hp : ∃ h : Heap, K.In h ∧ h.Ns mainGlobals mg
section
variable {K : PySem.W.Frag} {mg : Str → Option Value}
theorem glo_stand (T : Txt K mg) : mg "stand" = some (.ref (He.ga K "stand")) := by
  obtain ⟨h, X, G⟩ := T.hp
  exact He.glo_ok X G (T.c.fact 0 rfl)
theorem glo__law_draw (T : Txt K mg) : mg "_law_draw" = some (.ref (He.ga K "_law_draw")) := by
  obtain ⟨h, X, G⟩ := T.hp
  exact He.glo_ok X G (T.c.fact 1 rfl)
theorem glo__law_far (T : Txt K mg) : mg "_law_far" = some (.ref (He.ga K "_law_far")) := by
  obtain ⟨h, X, G⟩ := T.hp
  exact He.glo_ok X G (T.c.fact 2 rfl)
theorem glo__law_whole (T : Txt K mg) : mg "_law_whole" = some (.ref (He.ga K "_law_whole")) := by
  obtain ⟨h, X, G⟩ := T.hp
  exact He.glo_ok X G (T.c.fact 3 rfl)
theorem glo__law_question (T : Txt K mg) : mg "_law_question" = some (.ref (He.ga K "_law_question")) := by
  obtain ⟨h, X, G⟩ := T.hp
  exact He.glo_ok X G (T.c.fact 4 rfl)
theorem glo__law_right (T : Txt K mg) : mg "_law_right" = some (.ref (He.ga K "_law_right")) := by
  obtain ⟨h, X, G⟩ := T.hp
  exact He.glo_ok X G (T.c.fact 5 rfl)
theorem glo_law (T : Txt K mg) : mg "law" = some (.ref (He.ga K "law")) := by
  obtain ⟨h, X, G⟩ := T.hp
  exact He.glo_ok X G (T.c.fact 6 rfl)
theorem free_len (T : Txt K mg) : mg "len" = none := by
  obtain ⟨h, X, G⟩ := T.hp
  exact He.free_ok X G (T.c.fact 7 rfl)
theorem free_abs (T : Txt K mg) : mg "abs" = none := by
  obtain ⟨h, X, G⟩ := T.hp
  exact He.free_ok X G (T.c.fact 8 rfl)
theorem free_max (T : Txt K mg) : mg "max" = none := by
  obtain ⟨h, X, G⟩ := T.hp
  exact He.free_ok X G (T.c.fact 9 rfl)
theorem free_sum (T : Txt K mg) : mg "sum" = none := by
  obtain ⟨h, X, G⟩ := T.hp
  exact He.free_ok X G (T.c.fact 10 rfl)
theorem free_isinstance (T : Txt K mg) : mg "isinstance" = none := by
  obtain ⟨h, X, G⟩ := T.hp
  exact He.free_ok X G (T.c.fact 11 rfl)
theorem free_int (T : Txt K mg) : mg "int" = none := by
  obtain ⟨h, X, G⟩ := T.hp
  exact He.free_ok X G (T.c.fact 12 rfl)
theorem free_bool (T : Txt K mg) : mg "bool" = none := by
  obtain ⟨h, X, G⟩ := T.hp
  exact He.free_ok X G (T.c.fact 13 rfl)
theorem free_min (T : Txt K mg) : mg "min" = none := by
  obtain ⟨h, X, G⟩ := T.hp
  exact He.free_ok X G (T.c.fact 14 rfl)
end
section
variable {P : Program} {w : World} {K : PySem.W.Frag} {mg : Str → Option Value} {base : Heap}
/-! ### stand -/
def way (s e : Int) : Int := if e - s < 0 then -(e - s) else e - s
def stand (s e l t b : Int) : Int :=
  if t < 0 then s else if b * l ≤ t then e else if e < s then s - way s e * t / (b * l) else s + way s e * t / (b * l)
/-- how far the numbers may go -/
def Fits (s e l b : Int) : Prop := 0 ≤ s ∧ s ≤ 1000000000000000000 ∧ 0 ≤ e ∧ e ≤ 1000000000000000000 ∧ 0 ≤ l ∧ l ≤ 1000000000000000000 ∧ 1 ≤ b ∧ b ≤ 1000000000000000000
theorem way_bound {s e l b : Int} (h : Fits s e l b) : 0 ≤ way s e ∧ way s e ≤ 1000000000000000000 := by
  obtain ⟨s0, s1, e0, e1, l0, l1, b0, b1⟩ := h
  unfold way
  split <;> omega
theorem bl_bound {s e l b : Int} (h : Fits s e l b) : (b * l).natAbs < 2 ^ 121 := by
  obtain ⟨s0, s1, e0, e1, l0, l1, b0, b1⟩ := h
  rw [Int.natAbs_mul]
  have h1 : b.natAbs ≤ 10 ^ 18 := by omega
  have h2 : l.natAbs ≤ 10 ^ 18 := by omega
  exact Nat.lt_of_le_of_lt (Nat.mul_le_mul h1 h2) (by decide)
theorem bl_pos {s e l t b : Int} (h : Fits s e l b) (h0 : ¬ t < 0) (h1 : ¬ b * l ≤ t) : 0 < b * l := by omega
def spStand : Sp := fun vs H Q _ => ∃ s e l t b, vs = [.int s, .int e, .int l, .int t, .int b] ∧ Fits s e l b ∧ Q (.int (stand s e l t b)) H
theorem ok_stand (T : Txt K mg) : ∃ fd, FnOk P w K mg base CX0 1 (He.fAd K ("stand", none)) fd ["start", "end", "length", "top", "bottom"] spStand ∧ FunD K "stand" "stand" (defArgs s_stand) (defBody s_stand) (defScope s_stand) [.int 1] [] (He.fAd K ("stand", none)) fd := by
  obtain ⟨fd, F⟩ := T.c.def_ 0 (d := d_stand) rfl
  refine ⟨fd, F.ok sc_stand (fun vs H Q E h => ?_) (fun cdv A outer st H vs Q E hr h => ?_), F⟩
  · obtain ⟨_, _, _, _, _, rfl, _⟩ := h
    rfl
  · obtain ⟨s, e, l, t, b, rfl, hf, k⟩ := h
    refine ⟨_, PSs.nox (pss_cons (ps_if (pt_cmpR op_lt (pv 3) pe_int (nomark _)) (pss_one (ps_ret (pv 0))) pss_nil)
        (pss_cons (ps_if (pt_cmpR op_ge (pv 3) (pe_op op_mul (pv 4) (pv 2)) (nomark _)) (pss_one (ps_ret (pv 1))) pss_nil)
        (pss_cons (ps_set (i := 5) sc_stand.nd rfl (Or.inl rfl) (pe_op op_fdivW (pe_op op_mul (pe_callB call_abs (by rfl) (free_abs T) (by decide +kernel) (pa_cons (pe_op op_sub (pv 1) (pv 0)) pa_nil)) (pv 3)) (pe_op op_mul (pv 4) (pv 2))))
        (pss_cons (ps_if (pt_cmpR op_lt (pv 1) (pv 0) (nomark _)) (pss_one (ps_ret (pe_op op_sub (pv 0) (pv 5)))) pss_nil)
        (pss_one (ps_ret (pe_op op_add (pv 0) (pv 5)))))))), ?_⟩
    unfold stand at k
    have hf' := hf
    obtain ⟨s0, s1, e0, e1, l0, l1, b0, b1⟩ := hf'
    have wb := way_bound hf
    walk_at "rds"
    walk_at "ri" <;> intro c1
    · rw [if_pos c1] at k
      exact ⟨_, rfl, k⟩
    rw [if_neg c1] at k
    refine ⟨_, rfl, _, rfl, _, rfl, _, _, rfl, rfl, .inl ⟨by omega, by omega⟩, _, _, rfl, rfl, _, rfl, ?_⟩
    walk_at "ri" <;> intro c2
    · rw [if_pos c2] at k
      exact ⟨_, rfl, k⟩
    rw [if_neg c2] at k
    have hp := bl_pos hf c1 c2
    refine ⟨_, rfl, _, rfl, _, _, rfl, rfl, _, rfl, _, rfl, _, _, rfl, rfl, .inl ⟨?_, ?_⟩, ?_⟩
    · show -(2 ^ 64) < way s e
      omega
    · show way s e < 2 ^ 64
      omega
    refine ⟨_, rfl, _, rfl, _, _, rfl, rfl, .inl ⟨by omega, by omega⟩, _, _, rfl, rfl, wide_div hp (bl_bound hf) (by decide) (by decide), ?_⟩
    refine ⟨_, rfl, _, rfl, _, _, rfl, rfl, _, rfl, ?_⟩
    walk_at "ri" <;> intro c3
    · rw [if_pos c3] at k
      exact ⟨_, rfl, _, rfl, _, _, rfl, rfl, k⟩
    · rw [if_neg c3] at k
      exact ⟨_, rfl, _, rfl, _, _, rfl, rfl, k⟩
/-! ### the draws -/
def spDraw : Sp := fun vs H Q _ => ∃ c p : Int, vs = [.int c, .int p] ∧ 0 ≤ p ∧ p ≤ 1000 ∧ ∀ r : Int, 0 ≤ r → r < 2147483648 → Q (.int r) H
theorem ok_l_draw (T : Txt K mg) : ∃ fd, FnOk P w K mg base CX0 1 (He.fAd K ("_law_draw", none)) fd ["_law_cell", "_law_place"] spDraw ∧ Binds K fd ["_law_cell", "_law_place"] [] ∧ PySem.W.keepIn K (.ref (He.fAd K ("_law_draw", none))) = true := by
  obtain ⟨fd, F⟩ := T.c.def_ 1 (d := d_l_draw) rfl
  refine ⟨fd, F.ok sc_l_draw (fun vs H Q E h => ?_) (fun cdv A outer st H vs Q E hr h => ?_), FunD.bindsN F (fun _ _ _ _ _ _ us hl => match us, hl with | [_, _], _ => rfl), F.kp⟩
  · obtain ⟨_, _, rfl, _⟩ := h
    rfl
  · obtain ⟨c, p, rfl, p0, p1, k⟩ := h
    refine ⟨_, PSs.nox (pss_cons (ps_set (i := 2) sc_l_draw.nd rfl (Or.inl rfl) (pe_op op_shr (pv 0) (pe_op op_add pe_int (pe_op op_mul pe_int (pe_op op_mod (pv 1) pe_int)))))
        (pss_cons (ps_if (PW.pt (pw_and (pt_cmpR op_eq (pe_op op_mod (pv 0) pe_int) pe_int (nomark _)) (pw_and1 (pt_cmpR op_ne (pv 2) pe_int (nomark _))))) (pss_one (ps_ret (pe_op op_mod (pv 2) pe_int))) pss_nil)
        (pss_cons (ps_set (i := 3) sc_l_draw.nd rfl (Or.inl rfl) (pe_op op_mod (pe_op op_mul (pe_op op_add (pe_op op_mod (pe_op op_fdiv (pv 0) pe_int) (pe_powC (v := 1000000000000000000000000000000) (by rfl) (by decide +kernel))) pe_int) (pe_op op_add pe_int (pe_op op_mul (pe_op op_mul pe_int (pv 1)) (pv 1)))) pe_int))
        (pss_one (ps_ret (pe_op op_mod (pe_op op_mul (pv 3) (pv 3)) pe_int)))))), ?_⟩
    have hp2 : 0 ≤ 7919 * p * p ∧ 7919 * p * p ≤ 7919000000 := by
      have h1 : 0 ≤ 7919 * p := by omega
      have h2 := Int.mul_nonneg h1 p0
      have h3 := Int.mul_le_mul (show 7919 * p ≤ 7919000 by omega) p1 p0 (by decide)
      omega
    walk_at "rds"
    walk_at "ri" <;> intro c1
    · walk_at "rds"
      walk_at "ri" <;> intro c2
      · walk_at "rds"
        exact k _ (by omega) (by omega)
      · walk_at "rds"
        exact k _ (by omega) (by omega)
    · walk_at "rds"
      exact k _ (by omega) (by omega)
def spFar : Sp := fun vs H Q _ => ∃ c p : Int, vs = [.int c, .int p] ∧ 0 ≤ p ∧ p ≤ 900 ∧ ∀ r : Int, 0 ≤ r → r < 9903520314283042199192993792 → Q (.int r) H
theorem ok_l_far (T : Txt K mg) : ∃ fd, FnOk P w K mg base CX0 2 (He.fAd K ("_law_far", none)) fd ["_law_cell", "_law_place"] spFar ∧ Binds K fd ["_law_cell", "_law_place"] [] ∧ PySem.W.keepIn K (.ref (He.fAd K ("_law_far", none))) = true := by
  obtain ⟨fd, F⟩ := T.c.def_ 2 (d := d_l_far) rfl
  obtain ⟨fd_l_draw, G_l_draw, b_l_draw, kp_l_draw⟩ := ok_l_draw (P := P) (w := w) (base := base) T
  refine ⟨fd, F.ok sc_l_far (fun vs H Q E h => ?_) (fun cdv A outer st H vs Q E hr h => ?_), FunD.bindsN F (fun _ _ _ _ _ _ us hl => match us, hl with | [_, _], _ => rfl), F.kp⟩
  · obtain ⟨_, _, rfl, _⟩ := h
    rfl
  · obtain ⟨c, p, rfl, p0, p1, k⟩ := h
    refine ⟨_, PSs.nox (pss_cons (ps_set (i := 2) sc_l_far.nd rfl (Or.inl rfl) (pe_op op_add (pe_op op_mul (pe_call G_l_draw (hr.mono (by decide)) rfl (glo__law_draw T) kp_l_draw b_l_draw .nil pass0 (pa_cons (pv 0) (pa_cons (pv 1) pa_nil))) pe_int) (pe_call G_l_draw (hr.mono (by decide)) rfl (glo__law_draw T) kp_l_draw b_l_draw .nil pass0 (pa_cons (pv 0) (pa_cons (pe_op op_add (pv 1) pe_int) pa_nil)))))
        (pss_one (ps_ret (pe_op op_add (pe_op op_mul (pv 2) pe_int) (pe_call G_l_draw (hr.mono (by decide)) rfl (glo__law_draw T) kp_l_draw b_l_draw .nil pass0 (pa_cons (pv 0) (pa_cons (pe_op op_add (pv 1) pe_int) pa_nil))))))), ?_⟩
    walk_at "rds"
    intro r0 h0 h0'
    walk_at "rds"
    intro r1 h1 h1'
    walk_at "rds"
    intro r2 h2 h2'
    walk_at "rds"
    exact k _ (by omega) (by omega)
def spWhole : Sp := fun vs H Q _ => ∃ n : Int, vs = [.int n] ∧ Q (.bl true) H
theorem ok_l_whole (T : Txt K mg) : ∃ fd, FnOk P w K mg base CX0 1 (He.fAd K ("_law_whole", none)) fd ["_law_found"] spWhole ∧ Binds K fd ["_law_found"] [] ∧ PySem.W.keepIn K (.ref (He.fAd K ("_law_whole", none))) = true := by
  obtain ⟨fd, F⟩ := T.c.def_ 3 (d := d_l_whole) rfl
  refine ⟨fd, F.ok sc_l_whole (fun vs H Q E h => ?_) (fun cdv A outer st H vs Q E hr h => ?_), FunD.bindsN F (fun _ _ _ _ _ _ us hl => match us, hl with | [_], _ => rfl), F.kp⟩
  · obtain ⟨_, rfl, _⟩ := h
    rfl
  · obtain ⟨n, rfl, k⟩ := h
    refine ⟨_, PSs.nox (pss_one (ps_ret (pe_and (pe_callB call_isi (by rfl) (free_isinstance T) (by decide +kernel) (pa_cons (pv 0) (pa_cons (pe_bltn (v := .ty "int") (by rfl) (free_int T) (by decide +kernel) rfl) pa_nil))) (pe_one (pe_not (pe_callB call_isi (by rfl) (free_isinstance T) (by decide +kernel) (pa_cons (pv 0) (pa_cons (pe_bltn (v := .ty "bool") (by rfl) (free_bool T) (by decide +kernel) rfl) pa_nil)))))))), ?_⟩
    walk_at "rds"
    exact k
def spQuestion : Sp := fun vs H Q _ => ∃ c : Int, vs = [.int c] ∧ ∀ (s e l t b : Int) (p : Addr) (H' : Hp), 0 ≤ s → s ≤ 1000000000 → 0 ≤ e → e ≤ 1000000000 → 0 ≤ l → l ≤ 1000000000 → 1 ≤ b → b ≤ 500000000 →
  Same H H' → H' p = some (.tup [.int s, .int e, .int l, .int t, .int b]) → Q (.ref p) H'
theorem ok_l_question (T : Txt K mg) : ∃ fd, FnOk P w K mg base CX0 3 (He.fAd K ("_law_question", none)) fd ["_law_cell"] spQuestion ∧ Binds K fd ["_law_cell"] [] ∧ PySem.W.keepIn K (.ref (He.fAd K ("_law_question", none))) = true := by
  obtain ⟨fd, F⟩ := T.c.def_ 4 (d := d_l_question) rfl
  obtain ⟨fd_l_draw, G_l_draw, b_l_draw, kp_l_draw⟩ := ok_l_draw (P := P) (w := w) (base := base) T
  obtain ⟨fd_l_far, G_l_far, b_l_far, kp_l_far⟩ := ok_l_far (P := P) (w := w) (base := base) T
  refine ⟨fd, F.ok sc_l_question (fun vs H Q E h => ?_) (fun cdv A outer st H vs Q E hr h => ?_), FunD.bindsN F (fun _ _ _ _ _ _ us hl => match us, hl with | [_], _ => rfl), F.kp⟩
  · obtain ⟨_, rfl, _⟩ := h
    rfl
  · obtain ⟨c, rfl, k⟩ := h
    refine ⟨_, PSs.nox (pss_cons (ps_set (i := 1) sc_l_question.nd rfl (Or.inl rfl) (pe_ix ix_list (pe_lst (pa_cons pe_int (pa_cons (pe_powC (v := 1000000000) (by rfl) (by decide +kernel)) (pa_cons (pe_powC (v := 1000000000) (by rfl) (by decide +kernel)) pa_nil)))) (pe_op op_mod (pe_op op_fdiv (pe_call G_l_draw (hr.mono (by decide)) rfl (glo__law_draw T) kp_l_draw b_l_draw .nil pass0 (pa_cons (pv 0) (pa_cons pe_int pa_nil))) pe_int) pe_int) (fun _ _ => rfl)))
        (pss_cons (ps_set (i := 2) sc_l_question.nd rfl (Or.inl rfl) (pe_op op_mod (pe_call G_l_draw (hr.mono (by decide)) rfl (glo__law_draw T) kp_l_draw b_l_draw .nil pass0 (pa_cons (pv 0) (pa_cons pe_int pa_nil))) (pe_op op_add (pv 1) pe_int)))
        (pss_cons (ps_set (i := 3) sc_l_question.nd rfl (Or.inl rfl) (pe_op op_mod (pe_call G_l_draw (hr.mono (by decide)) rfl (glo__law_draw T) kp_l_draw b_l_draw .nil pass0 (pa_cons (pv 0) (pa_cons pe_int pa_nil))) (pe_op op_add (pv 1) pe_int)))
        (C8.pss_cut (ps_if (pt_cmpR op_eq (pe_op op_mod (pe_op op_fdiv (pe_call G_l_draw (hr.mono (by decide)) rfl (glo__law_draw T) kp_l_draw b_l_draw .nil pass0 (pa_cons (pv 0) (pa_cons pe_int pa_nil))) pe_int) pe_int) pe_int (nomark _)) (pss_one (ps_set (i := 3) sc_l_question.nd rfl (Or.inl rfl) (pv 2))) pss_nil)
        (pss_cons (ps_set (i := 4) sc_l_question.nd rfl (Or.inl rfl) (pe_op op_mod (pe_call G_l_draw (hr.mono (by decide)) rfl (glo__law_draw T) kp_l_draw b_l_draw .nil pass0 (pa_cons (pv 0) (pa_cons pe_int pa_nil))) (pe_ix ix_list (pe_lst (pa_cons pe_int (pa_cons (pe_op op_add (pe_powC (v := 1000000000) (by rfl) (by decide +kernel)) pe_int) (pa_cons (pe_op op_add (pe_powC (v := 1000000000) (by rfl) (by decide +kernel)) pe_int) pa_nil)))) (pe_op op_mod (pe_op op_fdiv (pe_call G_l_draw (hr.mono (by decide)) rfl (glo__law_draw T) kp_l_draw b_l_draw .nil pass0 (pa_cons (pv 0) (pa_cons pe_int pa_nil))) pe_int) pe_int) (fun _ _ => rfl))))
        (pss_cons (ps_set (i := 5) sc_l_question.nd rfl (Or.inl rfl) (pe_op op_add pe_int (pe_op op_mod (pe_call G_l_draw (hr.mono (by decide)) rfl (glo__law_draw T) kp_l_draw b_l_draw .nil pass0 (pa_cons (pv 0) (pa_cons pe_int pa_nil))) (pe_ix ix_list (pe_lst (pa_cons pe_int (pa_cons pe_int (pa_cons (pe_op op_mul pe_int (pe_powC (v := 100000000) (by rfl) (by decide +kernel))) pa_nil)))) (pe_op op_mod (pe_op op_fdiv (pe_call G_l_draw (hr.mono (by decide)) rfl (glo__law_draw T) kp_l_draw b_l_draw .nil pass0 (pa_cons (pv 0) (pa_cons pe_int pa_nil))) pe_int) pe_int) (fun _ _ => rfl)))))
        (pss_cons (ps_set (i := 6) sc_l_question.nd rfl (Or.inl rfl) (pe_op op_mul (pv 4) (pv 5)))
        (pss_cons (ps_set (i := 7) sc_l_question.nd rfl (Or.inl rfl) (pe_op op_mod (pe_call G_l_draw (hr.mono (by decide)) rfl (glo__law_draw T) kp_l_draw b_l_draw .nil pass0 (pa_cons (pv 0) (pa_cons pe_int pa_nil))) pe_int))
        (pss_cons (ps_set (i := 8) sc_l_question.nd rfl (Or.inl rfl) (pe_op op_mod (pe_call G_l_far (hr.mono (by decide)) rfl (glo__law_far T) kp_l_far b_l_far .nil pass0 (pa_cons (pv 0) (pa_cons pe_int pa_nil))) (pe_op op_add (pv 6) pe_int)))
        (C8.pss_cut (ps_if (pt_cmpR op_eq (pv 7) pe_int (nomark _)) (pss_one (ps_set (i := 8) sc_l_question.nd rfl (Or.inl rfl) (pe_op op_sub pe_negC (pe_op op_mod (pe_call G_l_far (hr.mono (by decide)) rfl (glo__law_far T) kp_l_far b_l_far .nil pass0 (pa_cons (pv 0) (pa_cons pe_int pa_nil))) (pe_op op_mul (pe_powC (v := 100000000000) (by rfl) (by decide +kernel)) (pv 5)))))) pss_nil)
        (C8.pss_cut (ps_if (pt_cmpR op_eq (pv 7) pe_int (nomark _)) (pss_one (ps_set (i := 8) sc_l_question.nd rfl (Or.inl rfl) pe_int)) pss_nil)
        (C8.pss_cut (ps_if (pt_cmpR op_eq (pv 7) pe_int (nomark _)) (pss_one (ps_set (i := 8) sc_l_question.nd rfl (Or.inl rfl) (pv 6))) pss_nil)
        (C8.pss_cut (ps_if (pt_cmpR op_eq (pv 7) pe_int (nomark _)) (pss_one (ps_set (i := 8) sc_l_question.nd rfl (Or.inl rfl) (pe_callB (call_max2 rfl) (by rfl) (free_max T) (by decide +kernel) (pa_cons pe_int (pa_cons (pe_op op_sub (pv 6) pe_int) pa_nil))))) pss_nil)
        (C8.pss_cut (ps_if (pt_cmpR op_eq (pv 7) pe_int (nomark _)) (pss_one (ps_set (i := 8) sc_l_question.nd rfl (Or.inl rfl) (pe_op op_add (pv 6) (pe_op op_mod (pe_call G_l_far (hr.mono (by decide)) rfl (glo__law_far T) kp_l_far b_l_far .nil pass0 (pa_cons (pv 0) (pa_cons pe_int pa_nil))) (pe_op op_mul (pe_powC (v := 100000000000) (by rfl) (by decide +kernel)) (pv 5)))))) pss_nil)
        (pss_one (ps_ret (pe_tup (pa_cons (pv 2) (pa_cons (pv 3) (pa_cons (pv 4) (pa_cons (pv 8) (pa_cons (pv 5) pa_nil)))))))))))))))))))))), ?_⟩
    walk_at "rds"
    intro p1 hp1
    walk_at "rds"
    intro r1 a1 b1
    walk_at "rds"
    obtain ⟨most, hv, hm⟩ := at3 (a := 9) (b := 1000000000) (c := 1000000000) (k := r1 / 9 % 3) (by omega) (by omega)
    refine ⟨_, _, _, _, rfl, rfl, SqL.of upd_same, hv, ?_⟩
    walk_at "rds"
    intro r2 a2 b2
    walk_at "rds"
    intro r3 a3 b3
    walk_at "rds"
    have s1 : Same H (upd H p1 (HO.lst [V.int 9, V.int 1000000000, V.int 1000000000])) := (Same.refl H).new hp1
    generalize upd H p1 (HO.lst [V.int 9, V.int 1000000000, V.int 1000000000]) = H1 at s1 ⊢
    have hs : 0 ≤ r2 % (most + 1) ∧ r2 % (most + 1) ≤ 1000000000 := ⟨Int.emod_nonneg _ (by omega), by have := Int.emod_lt_of_pos r2 (show 0 < most + 1 by omega); omega⟩
    have he : 0 ≤ r3 % (most + 1) ∧ r3 % (most + 1) ≤ 1000000000 := ⟨Int.emod_nonneg _ (by omega), by have := Int.emod_lt_of_pos r3 (show 0 < most + 1 by omega); omega⟩
    refine ⟨fun σ' H' => ∃ e : Int, σ' = [some (.int c), some (.int most), some (.int (r2 % (most + 1))), some (.int e), none, none, none, none, none] ∧ 0 ≤ e ∧ e ≤ 1000000000 ∧ Same H H', ?_, ?_⟩
    · walk_at "rds"
      intro r4 a4 b4
      walk_at "rds"
      walk_at "ri" <;> intro hc
      · walk_at "rds"
        exact s1
      · exact ⟨_, rfl, he.1, he.2, s1⟩
    rintro σ' H' ⟨e, rfl, e0, e1, s2⟩
    clear s1 he hv
    walk_at "nf"
    generalize hsv : r2 % (most + 1) = s at hs ⊢
    walk_at "rds"
    intro r4 a4 b4
    walk_at "rds"
    intro p2 hp2
    walk_at "rds"
    intro r5 a5 b5
    walk_at "rds"
    obtain ⟨m2, hv2, hm2⟩ := at3 (a := 13) (b := 1000000000 + 1) (c := 1000000000 + 1) (k := r5 / 243 % 3) (by omega) (by omega)
    refine ⟨_, _, _, _, rfl, rfl, SqL.of upd_same, hv2, ?_⟩
    have s3 := s2.new (o := HO.lst [V.int 13, V.int (1000000000 + 1), V.int (1000000000 + 1)]) hp2
    generalize upd H' p2 (HO.lst [V.int 13, V.int (1000000000 + 1), V.int (1000000000 + 1)]) = H2 at s3 ⊢
    walk_at "rds"
    have hl : 0 ≤ r4 % m2 ∧ r4 % m2 ≤ 1000000000 := ⟨Int.emod_nonneg _ (by omega), by have := Int.emod_lt_of_pos r4 (show 0 < m2 by omega); omega⟩
    walk_at "nf"
    generalize hlv : r4 % m2 = l at hl ⊢
    intro r6 a6 b6
    walk_at "rds"
    intro p3 hp3
    walk_at "rds"
    intro r7 a7 b7
    walk_at "rds"
    obtain ⟨m3, hv3, hm3⟩ := at3 (a := 1) (b := 9) (c := 5 * 100000000) (k := r7 / 729 % 3) (by omega) (by omega)
    refine ⟨_, _, _, _, rfl, rfl, SqL.of upd_same, hv3, ?_⟩
    have s4 := s3.new (o := HO.lst [V.int 1, V.int 9, V.int (5 * 100000000)]) hp3
    generalize upd H2 p3 (HO.lst [V.int 1, V.int 9, V.int (5 * 100000000)]) = H3 at s4 ⊢
    walk_at "rds"
    have hb : 1 ≤ 1 + r6 % m3 ∧ 1 + r6 % m3 ≤ 500000000 := ⟨by have := Int.emod_nonneg r6 (show m3 ≠ 0 by omega); omega, by have := Int.emod_lt_of_pos r6 (show 0 < m3 by omega); omega⟩
    walk_at "nf"
    generalize hbv : 1 + r6 % m3 = b at hb ⊢
    have hw : 0 ≤ l * b := Int.mul_nonneg hl.1 (by omega)
    have hfar : 0 < 100000000000 * b := by omega
    walk_at "rds"
    intro r8 a8 b8
    walk_at "rds"
    intro r9 a9 b9
    walk_at "rds"
    refine ⟨fun σ' H' => ∃ t : Int, σ' = [some (.int c), some (.int most), some (.int s), some (.int e), some (.int l), some (.int b), some (.int (l * b)), some (.int (r8 % 9)), some (.int t)] ∧ Same H H', ?_, ?_⟩
    · walk_at "rds"
      walk_at "ri" <;> intro hc
      · walk_at "rds"
        intro r10 a10 b10
        walk_at "rds"
        exact s4
      · exact ⟨_, rfl, s4⟩
    rintro σ' H' ⟨t1, rfl, s5⟩
    refine ⟨fun σ' H' => ∃ t : Int, σ' = [some (.int c), some (.int most), some (.int s), some (.int e), some (.int l), some (.int b), some (.int (l * b)), some (.int (r8 % 9)), some (.int t)] ∧ Same H H', ?_, ?_⟩
    · walk_at "rds"
      walk_at "ri" <;> intro hc
      · walk_at "rds"
        exact s5
      · exact ⟨_, rfl, s5⟩
    rintro σ' H' ⟨t2, rfl, s6⟩
    refine ⟨fun σ' H' => ∃ t : Int, σ' = [some (.int c), some (.int most), some (.int s), some (.int e), some (.int l), some (.int b), some (.int (l * b)), some (.int (r8 % 9)), some (.int t)] ∧ Same H H', ?_, ?_⟩
    · walk_at "rds"
      walk_at "ri" <;> intro hc
      · walk_at "rds"
        exact s6
      · exact ⟨_, rfl, s6⟩
    rintro σ' H' ⟨t3, rfl, s7⟩
    refine ⟨fun σ' H' => ∃ t : Int, σ' = [some (.int c), some (.int most), some (.int s), some (.int e), some (.int l), some (.int b), some (.int (l * b)), some (.int (r8 % 9)), some (.int t)] ∧ Same H H', ?_, ?_⟩
    · walk_at "rds"
      walk_at "ri" <;> intro hc
      · walk_at "rds"
        exact s7
      · exact ⟨_, rfl, s7⟩
    rintro σ' H' ⟨t4, rfl, s8⟩
    refine ⟨fun σ' H' => ∃ t : Int, σ' = [some (.int c), some (.int most), some (.int s), some (.int e), some (.int l), some (.int b), some (.int (l * b)), some (.int (r8 % 9)), some (.int t)] ∧ Same H H', ?_, ?_⟩
    · walk_at "rds"
      walk_at "ri" <;> intro hc
      · walk_at "rds"
        intro r11 a11 b11
        walk_at "rds"
        exact s8
      · exact ⟨_, rfl, s8⟩
    rintro σ' H' ⟨t5, rfl, s9⟩
    walk_at "rds"
    intro p4 hp4
    exact k s e l t5 b p4 _ hs.1 hs.2 e0 e1 hl.1 hl.2 hb.1 hb.2 (s9.new hp4) upd_same
/-! ### the plain law -/
theorem stand_steps {s e l t b : Int} (hf : Fits s e l b) (h0 : ¬ t < 0) (h1 : ¬ b * l ≤ t) :
    ∃ k, 0 ≤ k ∧ k ≤ way s e ∧ stand s e l t b = (if e < s then s - k else s + k) ∧ k * b * l ≤ way s e * t ∧ way s e * t < (k + 1) * b * l := by
  have hp := bl_pos hf h0 h1
  have hw := way_bound hf
  refine ⟨way s e * t / (b * l), Int.ediv_nonneg (Int.mul_nonneg hw.1 (by omega)) (by omega), ?_, ?_, ?_, ?_⟩
  · have h2 : way s e * t ≤ way s e * (b * l) := Int.mul_le_mul_of_nonneg_left (by omega) hw.1
    have h3 : way s e * t / (b * l) * (b * l) ≤ way s e * t := Int.ediv_mul_le _ (by omega)
    exact Int.le_of_mul_le_mul_right (Int.le_trans h3 h2) hp
  · unfold stand
    rw [if_neg h0, if_neg h1]
  · rw [Int.mul_assoc]
    exact Int.ediv_mul_le _ (by omega)
  · rw [Int.mul_assoc]
    exact Int.lt_ediv_add_one_mul_self _ hp
theorem stand_twice {s e l t b : Int} : stand s e l (2 * t) (2 * b) = stand s e l t b := by
  unfold stand
  have e1 : (2 * t < 0) ↔ (t < 0) := by omega
  have e2 : (2 * b * l ≤ 2 * t) ↔ (b * l ≤ t) := by
    rw [Int.mul_assoc]
    omega
  have e3 : way s e * (2 * t) / (2 * b * l) = way s e * t / (b * l) := by
    rw [Int.mul_assoc, show way s e * (2 * t) = 2 * (way s e * t) by rw [← Int.mul_assoc, Int.mul_comm (way s e) 2, Int.mul_assoc]]
    exact Int.mul_ediv_mul_of_pos _ _ (by decide)
  simp only [e1, e2, e3]
/-! ### the law's own look at an answer -/
def spRight : Sp := fun vs H Q _ => ∃ s e l t b : Int, vs = [.int (stand s e l t b), .int s, .int e, .int l, .int t, .int b] ∧ 0 ≤ s ∧ s ≤ 1000000000 ∧ 0 ≤ e ∧ e ≤ 1000000000 ∧ 0 ≤ l ∧ l ≤ 1000000000 ∧ 1 ≤ b ∧ b ≤ 500000000 ∧ Q (.bl true) H
theorem ok_l_right (T : Txt K mg) : ∃ fd, FnOk P w K mg base CX0 2 (He.fAd K ("_law_right", none)) fd ["_law_found", "_law_start", "_law_end", "_law_length", "_law_top", "_law_lower"] spRight ∧ Binds K fd ["_law_found", "_law_start", "_law_end", "_law_length", "_law_top", "_law_lower"] [] ∧ PySem.W.keepIn K (.ref (He.fAd K ("_law_right", none))) = true := by
  obtain ⟨fd, F⟩ := T.c.def_ 5 (d := d_l_right) rfl
  obtain ⟨fd_l_whole, G_l_whole, b_l_whole, kp_l_whole⟩ := ok_l_whole (P := P) (w := w) (base := base) T
  refine ⟨fd, F.ok sc_l_right (fun vs H Q E h => ?_) (fun cdv A outer st H vs Q E hr h => ?_), FunD.bindsN F (fun _ _ _ _ _ _ us hl => match us, hl with | [_, _, _, _, _, _], _ => rfl), F.kp⟩
  · obtain ⟨_, _, _, _, _, rfl, _⟩ := h
    rfl
  · obtain ⟨s, e, l, t, b, rfl, s0, s1, e0, e1, l0, l1, b0, b1, k⟩ := h
    have hf : Fits s e l b := ⟨s0, by omega, e0, by omega, l0, by omega, b0, by omega⟩
    refine ⟨_, PSs.nox (pss_cons (ps_if (pt_not (pt_val (pe_call G_l_whole (hr.mono (by decide)) rfl (glo__law_whole T) kp_l_whole b_l_whole .nil pass0 (pa_cons (pv 0) pa_nil)))) (pss_one (ps_ret pe_bl)) pss_nil)
        (pss_cons (ps_if (pt_cmpR op_lt (pv 4) pe_int (nomark _)) (pss_one (ps_ret (pe_cmpR op_eq (pv 0) (pv 1) (nomark _)))) pss_nil)
        (pss_cons (ps_if (pt_cmpR op_ge (pv 4) (pe_op op_mul (pv 3) (pv 5)) (nomark _)) (pss_one (ps_ret (pe_cmpR op_eq (pv 0) (pv 2) (nomark _)))) pss_nil)
        (pss_cons (ps_set (i := 6) sc_l_right.nd rfl (Or.inl rfl) (pe_op op_sub (pv 0) (pv 1)))
        (C8.pss_cut (ps_if (pt_cmpR op_lt (pv 2) (pv 1) (nomark _)) (pss_one (ps_set (i := 6) sc_l_right.nd rfl (Or.inl rfl) (pe_op op_sub (pv 1) (pv 0)))) pss_nil)
        (pss_cons (ps_set (i := 7) sc_l_right.nd rfl (Or.inl rfl) (pe_callB call_abs (by rfl) (free_abs T) (by decide +kernel) (pa_cons (pe_op op_sub (pv 2) (pv 1)) pa_nil)))
        (pss_one (ps_ret (pe_and (pe_cmpR op_le pe_int (pv 6) (nomark _)) (pe_and (pe_cmpR op_le (pe_op op_mul (pe_op op_mul (pv 6) (pv 5)) (pv 3)) (pe_op op_mul (pv 7) (pv 4)) (nomark _)) (pe_one (pe_cmpR op_lt (pe_op op_mul (pv 7) (pv 4)) (pe_op op_mul (pe_op op_mul (pe_op op_add (pv 6) pe_int) (pv 5)) (pv 3)) (nomark _))))))))))))), ?_⟩
    walk_at "rds"
    walk_at "ri" <;> intro c1
    · have q : stand s e l t b = s := by
        unfold stand
        rw [if_pos c1]
      rw [q]
      walk_at "rds"
      rw [decide_eq_true rfl]
      exact k
    have hm : -(2 ^ 64) < l ∧ l < 2 ^ 64 := by omega
    walk_at "rds"
    walk_at "ri" <;> intro c2
    · have q : stand s e l t b = e := by
        unfold stand
        rw [if_neg c1, if_pos (by rw [Int.mul_comm]; exact c2)]
      rw [q]
      walk_at "rds"
      rw [decide_eq_true rfl]
      exact k
    have c2' : ¬ b * l ≤ t := by rw [Int.mul_comm]; exact c2
    obtain ⟨g, g0, g1, q, q1, q2⟩ := stand_steps hf c1 c2'
    have hw := way_bound hf
    rw [q]
    walk_at "rds"
    refine ⟨fun σ' H' => ∃ y, σ' = [some (.int (if e < s then s - g else s + g)), some (.int s), some (.int e), some (.int l), some (.int t), some (.int b), some (.int y), none] ∧ y = g ∧ H' = H, ?_, ?_⟩
    · walk_at "rds"
      walk_at "ri" <;> intro c3
      · rw [if_pos c3]
        walk_at "rds"
        rfl
      · rw [if_neg c3]
        walk_at "rds"
        rfl
    rintro σ' H' ⟨y, rfl, rfl, rfl⟩
    have wb : way s e ≤ 1000000000 := by
      unfold way
      split <;> omega
    have gb : y * b ≤ 1000000000 * 500000000 := Int.mul_le_mul (by omega) b1 (by omega) (by decide)
    have gb0 : 0 ≤ y * b := Int.mul_nonneg g0 (by omega)
    have gb2 : (y + 1) * b ≤ 1000000001 * 500000000 := Int.mul_le_mul (by omega) b1 (by omega) (by decide)
    have gb3 : 0 ≤ (y + 1) * b := Int.mul_nonneg (by omega) (by omega)
    walk_at "rds"
    refine iteDT g0 ?_
    walk_at "rds"
    refine iteDT q1 ?_
    walk_at "rds"
    exact qT (Q := Q) q2 k
/-! ### the law -/
def spLaw (K : PySem.W.Frag) : Sp := fun vs H Q _ => ∃ (a : Addr) (ns : List Int), vs = [.ref a] ∧ SqL K H a (ns.map V.int) ∧ ns.length ≤ 63 ∧ (∀ z ∈ ns, Builtin.Int.intBits z ≤ 1048576) ∧ Only H ∧ ∀ H', Q (.bl true) H'
theorem ok_law (T : Txt K mg) : ∃ fd, FnOk P w K mg base CX0 6 (He.fAd K ("law", none)) fd ["_law_script"] (spLaw K) ∧ FunD K "law" "law" (defArgs s_law) (defBody s_law) (defScope s_law) [] [] (He.fAd K ("law", none)) fd := by
  obtain ⟨fd, F⟩ := T.c.def_ 6 (d := d_law) rfl
  obtain ⟨fd_l_question, G_l_question, b_l_question, kp_l_question⟩ := ok_l_question (P := P) (w := w) (base := base) T
  obtain ⟨fd_l_right, G_l_right, b_l_right, kp_l_right⟩ := ok_l_right (P := P) (w := w) (base := base) T
  obtain ⟨fd_stand, G_stand, F_stand⟩ := ok_stand (P := P) (w := w) (base := base) T
  have kp_stand := F_stand.kp
  have b_stand : ∃ ds, Vals ([V.int 1].drop 1) ds ∧ Binds K fd_stand ["start", "end", "length", "top", "bottom"] ds := F_stand.binds1 5 1 (by decide) rfl (fun _ _ _ _ _ _ _ us its h1 h2 => match us, its, h1, h2 with | [_, _, _, _, _], [_], _, _ => ⟨_, rfl, rfl⟩)
  obtain ⟨d0, v0_stand, b0_stand⟩ := b_stand
  have b1_stand : ∃ ds, Vals ([V.int 1].drop 0) ds ∧ Binds K fd_stand ["start", "end", "length", "top", "bottom"] ds := F_stand.binds1 4 0 (by decide) rfl (fun _ _ _ _ _ _ _ us its h1 h2 => match us, its, h1, h2 with | [_, _, _, _], [_], _, _ => ⟨_, rfl, rfl⟩)
  obtain ⟨d1, v1_stand, b1_stand⟩ := b1_stand
  have kb_stand := kb_all (ps := ["start", "end", "length", "top", "bottom"]) F_stand 4 ["bottom"] (by decide) (fun _ _ _ _ _ _ _ us its ws h1 h2 h3 => match us, its, ws, h1, h2, h3 with | [_, _, _, _], [_], [_], _, _, _ => ⟨_, rfl, rfl⟩)
  refine ⟨fd, F.ok sc_law (fun vs H Q E h => ?_) (fun cdv A outer st H vs Q E hr h => ?_), F⟩
  · obtain ⟨_, _, rfl, _⟩ := h
    rfl
  · obtain ⟨a, ns, rfl, hS, hlen, hbits, hO, k⟩ := h
    refine ⟨_, PSs.nox (pss_cons (ps_set (i := 0) sc_law.nd rfl (Or.inr rfl) (pe_lc (own := [("_law_cell", 1)]) (g := gName 1) rfl sc_law.nd (pi_list (pv 0)) (blkOk_by (own := [("_law_cell", 1)]) (N := ["_law_script", "_law_cell", "_law_start", "_law_end", "_law_length", "_law_top", "_law_lower", "_law_found"]) (sc := defScope s_law) (by decide +kernel)) (fun _ _ _ _ _ => pg_name (i := 1) sc_law.nd rfl (Or.inl rfl)) (fun _ _ _ _ _ => pts_nil) (fun _ _ _ _ _ => (pe_op op_add (pe_op op_mul pe_int (pv 1)) (pe_op op_mod (pe_callB (show CallR _ (.builtin "sum") (rSum K) from cr_sum rfl) (by rfl) (free_sum T) (by decide +kernel) (pa_cons (pe_slice (show SlR _ (rSlL K) from sl_list) (pv 0) po_none (po_some pe_int)) pa_nil)) pe_int)))))
        (pss_cons (ps_for PassesOwn.never rfl (pi_list (pe_slice sl_list (pv 0) po_none (po_some pe_int))) (pg_name (i := 1) sc_law.nd rfl (Or.inl rfl)) (pss_cons (ps_asg (pe_call G_l_question (hr.mono (by decide)) rfl (glo__law_question T) kp_l_question b_l_question .nil pass0 (pa_cons (pv 1) pa_nil)) (pg_tup rfl (pgs_cons (pg_name (i := 2) sc_law.nd rfl (Or.inl rfl)) (pgs_cons (pg_name (i := 3) sc_law.nd rfl (Or.inl rfl)) (pgs_cons (pg_name (i := 4) sc_law.nd rfl (Or.inl rfl)) (pgs_cons (pg_name (i := 5) sc_law.nd rfl (Or.inl rfl)) (pgs_cons (pg_name (i := 6) sc_law.nd rfl (Or.inl rfl)) pgs_nil)))))))
        (pss_cons (ps_set (i := 7) sc_law.nd rfl (Or.inl rfl) (pe_call G_stand (hr.mono (by decide)) rfl (glo_stand T) kp_stand b0_stand v0_stand pass0 (pa_cons (pv 2) (pa_cons (pv 3) (pa_cons (pv 4) (pa_cons (pv 5) (pa_cons (pv 6) pa_nil)))))))
        (pss_cons (ps_if (pt_not (pt_val (pe_call G_l_right (hr.mono (by decide)) rfl (glo__law_right T) kp_l_right b_l_right .nil pass0 (pa_cons (pv 7) (pa_cons (pv 2) (pa_cons (pv 3) (pa_cons (pv 4) (pa_cons (pv 5) (pa_cons (pv 6) pa_nil))))))))) (pss_one (ps_ret pe_bl)) pss_nil)
        (pss_cons (ps_if (pt_cmpR op_ne (pe_call G_stand (hr.mono (by decide)) rfl (glo_stand T) kp_stand b0_stand v0_stand pass0 (pa_cons (pv 2) (pa_cons (pv 3) (pa_cons (pv 4) (pa_cons (pe_op op_mul pe_int (pv 5)) (pa_cons (pe_op op_mul pe_int (pv 6)) pa_nil)))))) (pv 7) (nomark _)) (pss_one (ps_ret pe_bl)) pss_nil)
        (pss_cons (ps_if (pt_cmpR op_ne (pe_callN G_stand (hr.mono (by decide)) rfl (glo_stand T) kp_stand kb_stand pass0 (pa_cons (pv 2) (pa_cons (pv 3) (pa_cons (pv 4) (pa_cons (pv 5) pa_nil)))) (pk_cons (pv 6) pk_nil)) (pv 7) (nomark _)) (pss_one (ps_ret pe_bl)) pss_nil)
        (pss_one (ps_if (PW.pt (pw_and (pt_cmpR op_eq (pv 6) pe_int (nomark _)) (pw_and1 (pt_cmpR op_ne (pe_call G_stand (hr.mono (by decide)) rfl (glo_stand T) kp_stand b1_stand v1_stand pass0 (pa_cons (pv 2) (pa_cons (pv 3) (pa_cons (pv 4) (pa_cons (pv 5) pa_nil))))) (pv 7) (nomark _))))) (pss_one (ps_ret pe_bl)) pss_nil))))))))
        (pss_one (ps_ret pe_bl)))), ?_⟩
    walk_at "rds"
    refine ⟨⟨_, hS⟩, fun D hD => lc_list (K := K) (a := a) (xs := ns.map V.int) (fun i H' => ∃ acc : List Int, H' D = some (.lst (acc.map V.int)) ∧ acc.length = i ∧ Same H H') ⟨[], upd_same, rfl, (Same.refl H).new hD⟩ (fun i H' _ ⟨_, _, _, s⟩ => s.seq hS) ?_ ?_⟩
    · rintro i y H' hi ⟨acc, hacc, hl, s⟩
      obtain ⟨z, rfl, hz, hlt⟩ := int_at hi
      refine ⟨rfl, ?_⟩
      walk_at "rds"
      refine ⟨_, _, rfl, s.seq hS, fun p hp => ?_⟩
      obtain ⟨ms, e1, _, _⟩ := cut_ints ns none (some 1)
      rw [e1]
      refine ⟨_, ms, rfl, SqL.of upd_same, ?_⟩
      walk_at "rds"
      refine ⟨acc.map V.int, ?_, ?_, acc ++ [2 * z + ms.sum % 2], ?_, ?_, ?_⟩
      · rw [upd_ne (ne_of_none hacc hp)]
        exact hacc
      · rw [List.length_map]
        exact Nat.lt_of_lt_of_le (show acc.length < 100000 by omega) (by decide)
      · rw [upd_same, List.map_append]
        rfl
      · rw [List.length_append]
        show acc.length + 1 = i + 1
        omega
      · exact (s.new hp).mut hD
    rintro H1 ⟨ns1, hD1, hl1, s1⟩
    walk_at "rds"
    refine ⟨_, _, rfl, SqL.of hD1, fun p hp => ?_⟩
    obtain ⟨ms, e1, hms, _⟩ := cut_ints ns1 none (some 40)
    rw [e1]
    have s2 : Same H (upd H1 p (HO.lst (ms.map V.int))) := s1.new hp
    refine ⟨p, rfl, ⟨_, SqL.of upd_same⟩, for_list (K := K) (a := p) (xs := ms.map V.int) (fun i σ' H' => ∃ v1 v2 v3 v4 v5 v6 v7 : Option V, σ' = [some (.ref D), v1, v2, v3, v4, v5, v6, v7] ∧ Same (upd H1 p (HO.lst (ms.map V.int))) H')
      ⟨_, _, _, _, _, _, _, rfl, Same.refl _⟩ (fun i σ' H' _ ⟨_, _, _, _, _, _, _, _, s⟩ => s.seq (SqL.of upd_same)) ?_ ?_⟩
    · rintro i y σ' H' hi ⟨v1, v2, v3, v4, v5, v6, v7, rfl, s3⟩
      obtain ⟨z, rfl, hz, hlt⟩ := int_at hi
      walk_at "rds"
      intro s e l t b q H2 s0 s1 e0 e1 l0 l1 b0 b1 s4 hq
      have hf : Fits s e l b := ⟨s0, by omega, e0, by omega, l0, by omega, b0, by omega⟩
      have hf2 : Fits s e l (2 * b) := ⟨s0, by omega, e0, by omega, l0, by omega, by omega, by omega⟩
      have s5 := s3.trans s4
      refine ⟨_, _, rfl, SqT.of hq, rfl, _, _, rfl, ?_⟩
      walk_at "rds"
      refine iteNVF stand_twice ?_
      walk_at "rds"
      refine iteNVF rfl ?_
      walk_at "rds"
      walk_at "ri" <;> intro hb
      · walk_at "rds"
        subst hb
        refine iteNVF rfl ?_
        exact ⟨_, _, _, _, _, _, _, rfl, s5⟩
      · exact ⟨_, _, _, _, _, _, _, rfl, s5⟩
    · rintro σ' H' ⟨v1, v2, v3, v4, v5, v6, v7, rfl, s3⟩
      exact k _
theorem law_facts {fa : Addr} (T : Txt K mg) (hfa : mg "law" = some (.ref fa)) :
    ∃ fd : FuncData, (∀ (s : Shared) (v : Value), BindsTo s fd ⟨[v], []⟩ [("_law_script", v)]) ∧ ∀ base : Heap, K.In base → base.Ns mainGlobals mg → FnOk P w K mg base CX0 6 fa fd ["_law_script"] (spLaw K) := by
  have e := hfa.symm.trans (glo_law T)
  cases e
  obtain ⟨fd, _, F⟩ := ok_law (P := P) (w := w) (base := default) T
  refine ⟨fd, fun s v => FunD.bindsA (ps := ["_law_script"]) F (fun _ _ _ _ _ _ us hl => match us, hl with | [_], _ => rfl) s [v] rfl, fun base _ _ => ?_⟩
  obtain ⟨fd', G, F'⟩ := ok_law (P := P) (w := w) (base := base) T
  have q : fd' = fd := F'.fd_eq F
  rw [← q]
  exact G

end

abbrev R : PySem.W.OpenRow := PySem.W.OpenLaw.row PySem.Challenge.rw_lampcues_k03_stand
abbrev hk : PySem.W.Hook := He.hookD 6 fa fn
def ob (s : PySem.W.SharedT) : He.AlD := He.obsDG 6 fa fn (HandSHeadRun.getT s)
theorem ob_eq (s : PySem.W.SharedT) : ob s = hk.obs s.abs := He.obsDG_eq (HandSHeadRun.getT_eq s)
def loose0 : List PySem.Str := ["stand", "_law_cell_at", "_law_whole", "_law_draw", "_law_far", "_law_question", "_law_right"]
def loose : List PySem.Str := loose0
theorem run (w : World) : HandSHeadRun.RunEq R (PySem.W.view R.prog [9]) hk ob 4000 loose w := by
  intro os
  kernel_rfl
end G94
open PySem PySem.W PySem.Calls PyProof.Rows
theorem PySem.Challenge.cw_lampcues_k03_stand_holds : PySem.Challenge.rw_lampcues_k03_stand.Holds := by
  w_on; o_law
  refine HandSHeadRun.head_any (r := OpenLaw.row PySem.Challenge.rw_lampcues_k03_stand) (q := view (OpenLaw.row PySem.Challenge.rw_lampcues_k03_stand).prog [9]) (H := G94.hk) (ob := G94.ob) (M := 4000) (loose := G94.loose) (d := HandSHeadRun.topDef (OpenLaw.row PySem.Challenge.rw_lampcues_k03_stand).prog 9) (kwd := []) G94.ob_eq
    (by kernel_rfl) (fun s => by kernel_rfl) G94.run (by kernel_rfl) (by kernel_rfl) (by kernel_rfl) (by rfl) (by first | assumption | decide +kernel) (by decide +kernel) ⟨rfl, rfl, rfl, rfl, rfl, by decide +kernel⟩ ?hw ?hc
  case hw => w_witness2
  case hc =>
    refine L2.walk_ofEB (l := PySem.Challenge.rw_lampcues_k03_stand) (n := 63) (k := 6) (x := "_law_script") (CX := L2.CX0) rfl (by decide) (by kernel_rfl) ⟨rfl, by decide, by decide⟩ ?F (fun _ _ _ _ z => z)
    intro w mg fa h Y G hmg0
    obtain ⟨K, KX, c⟩ := Y
    have hmg : mg ("law" : PySem.Str) = some (.ref fa) := by
      have e : (HandSHeadRun.topDef (OpenLaw.row PySem.Challenge.rw_lampcues_k03_stand).prog 9).name = ("law" : PySem.Str) := by kernel_rfl
      rw [← e]
      exact hmg0
    obtain ⟨fd, hb, hF⟩ := G94.law_facts (P := (PySem.Challenge.rw_lampcues_k03_stand).prog) (w := w) ⟨c, h, KX, G⟩ hmg
    exact ⟨K, fd, G94.spLaw K, KX, hb, fun H a ns hl hb hH hS => ⟨a, ns, rfl, hS, hl, hb, hH, fun _ => rfl⟩, hF⟩
