import PyProof.Rows.All
import Wide.All
import OpenK.AllK
import Wide.FinOn
import KE.KStateDown
import HandS.ForMost
import HandS.Exc
import HandS.TryOnly
import HandS.ExcOwn
import HandS.WordsExc
import HandS.Defaults
import HandS.Wide
import HandS.IsInst
import HandS.EndBits
import HandS.TupLe
import HandS.Rev
import HandS.Codes
import HandS.MakeKw
import HandS.Head0
import HandS.Head1
import HandS.Head2
import HandS.HeadEnd
import HandS.HeadHook1
import HandS.HeadHook2
import PySem.Challenge.RW_lampcues_k05_two_fades
set_option Elab.async false
set_option linter.all false
set_option maxRecDepth 100000
set_option maxHeartbeats 4000000
namespace L2
open PySem PySem.Spec PyProof.Rows
/-! ### own rules, own words -/
/-- a law's end by facts, with the script's bits and the only tracked thing told -/
theorem walk_ofEB {l : PySem.W.OpenLaw} {n k : Nat} {q : Program} {loose : List Str} {XP : (Str → Option Value) → Heap → Prop} {YP : World → Heap → Prop} {d : DefRec} {CX : CXT} {x : Str}
    (hn : l.most = some n) (hn2 : n ≤ sizeLine) (hdf : d.params.defaults = []) (hr : Room k callerA)
    (F : ∀ (w : World) (mg : Str → Option Value) (fa : Addr) (h : Heap), YP w h → h.Ns mainGlobals mg → mg d.name = some (.ref fa) →
      ∃ (K : PySem.W.Frag) (fd : FuncData) (sp : Sp), K.In h ∧ (∀ (s : Shared) (u : Value), BindsTo s fd ⟨[u], []⟩ [(x, u)]) ∧
        (∀ (H : Hp) (a : Addr) (ns : List Int), ns.length ≤ n → (∀ z ∈ ns, Builtin.Int.intBits z ≤ 1048576) → Only H → SqL K H a (ns.map V.int) → sp [.ref a] H (fun v _ => v = .bl true) fun _ _ _ => False) ∧
        ∀ base : Heap, K.In base → base.Ns mainGlobals mg → FnOk l.prog w K mg base CX k fa fd [x] sp)
    (hCX : ∀ (H : Hp) (s : Shared) (e : Value) (s' : Shared), CX [] H s (fun _ _ _ => False) e s' → False) :
    PySem.W.WalkO q loose XP YP l.row.toRowW d [] (fun f vs => PySem.call f vs) := by
  refine Att.attach_callB hn hdf fun w s₀ s₁ mg mb fa o pm cd doc a vs ns G Y ho hd hcd hmg hobj hints hlen hbits hg => ?_
  obtain ⟨K, fd, sp, KX, hb, hsp, hF⟩ := F w mg fa _ Y G.T.g hmg
  exact law_call KX G.T.g G.T.b G.T.builtins G.T.nolimit hg hobj hints (Nat.le_trans hlen hn2) hr hF hb (fun H hO hS => hsp H a ns hlen hbits hO hS) fun H e s' => hCX H s₁ e s'
section
variable {X : Cx}
/-- a written power -/
theorem pe_powC {i j v : Int} {a b : Nat} {p1 p2 pos : Pos} (e : i ^ j.toNat = v) (h : 0 ≤ j ∧ j ≤ 1000000 ∧ i.natAbs < 2 ^ 64) : PE X (.BinOp (.Constant (.int i) a p1) .Pow (.Constant (.int j) b p2) pos) (tC (.int v)) := by
  subst e
  refine ⟨fun pins s σ H Q I q => ?_⟩
  exact (pe_op (X := X) op_pow pe_int pe_int).run pins s σ H Q I ⟨i, j, rfl, rfl, h, q⟩
/-- a written negative number -/
theorem pe_negC {i : Int} {a : Nat} {p1 pos : Pos} : PE X (.UnaryOp .USub (.Constant (.int i) a p1) pos) (tC (.int (-i))) := by
  refine ⟨fun pins s σ H Q I q => ?_⟩
  exact (pe_un (X := X) un_neg pe_int).run pins s σ H Q I ⟨i, rfl, q⟩
end
theorem iteD {c A B : Prop} [Decidable c] (h1 : c → A) (h2 : ¬ c → B) : if decide c = true then A else B := by
  by_cases h : c
  · rw [if_pos (decide_eq_true h)]
    exact h1 h
  · rw [if_neg (by rw [decide_eq_false h]; exact Bool.false_ne_true)]
    exact h2 h
theorem iteND {c A B : Prop} [Decidable c] (h1 : ¬ c → A) (h2 : c → B) : if (!decide c) = true then A else B := by
  by_cases h : c
  · rw [decide_eq_true h]
    exact iteF (h2 h)
  · rw [decide_eq_false h]
    exact iteT (h1 h)
theorem iteV {a b : Int} {A B : Prop} (h1 : a = b → A) (h2 : a ≠ b → B) : if decide (V.int a = V.int b) = true then A else B :=
  iteD (fun e => h1 (V.int.inj e)) fun e => h2 fun q => e (congrArg V.int q)
theorem iteNV {a b : Int} {A B : Prop} (h1 : a ≠ b → A) (h2 : a = b → B) : if (!decide (V.int a = V.int b)) = true then A else B :=
  iteND (fun e => h1 fun q => e (congrArg V.int q)) fun e => h2 (V.int.inj e)
theorem iteB {b : Bool} {A B : Prop} (h1 : b = true → A) (h2 : b = false → B) : if b = true then A else B := by
  cases b with
  | true => exact iteT (h1 rfl)
  | false => exact iteF (h2 rfl)
theorem iteDT {c A B : Prop} [Decidable c] (h : c) (h1 : A) : if decide c = true then A else B := iteD (fun _ => h1) fun q => absurd h q
theorem iteDF {c A B : Prop} [Decidable c] (h : ¬ c) (h1 : B) : if decide c = true then A else B := iteD (fun q => absurd q h) fun _ => h1
theorem iteVT {a b : Int} {A B : Prop} (h : a = b) (h1 : A) : if decide (V.int a = V.int b) = true then A else B := iteV (fun _ => h1) fun q => absurd h q
theorem iteVF {a b : Int} {A B : Prop} (h : a ≠ b) (h1 : B) : if decide (V.int a = V.int b) = true then A else B := iteV (fun q => absurd q h) fun _ => h1
theorem iteNVF {a b : Int} {A B : Prop} (h : a = b) (h1 : B) : if (!decide (V.int a = V.int b)) = true then A else B := iteNV (fun q => absurd h q) fun _ => h1
theorem yes_lc {σ : St} {H : Hp} {A B : Hp → Prop} (h : A H) : tYes σ H (fun b H3 => if b = true then A H3 else B H3) := by
  show if true = true then A H else B H
  rw [if_pos rfl]
  exact h
theorem qT {Q : VK} {H : Hp} {c : Prop} [Decidable c] (h : c) (k : Q (.bl true) H) : Q (.bl (decide c)) H := by
  rw [decide_eq_true h]
  exact k
theorem qF {Q : VK} {H : Hp} {c : Prop} [Decidable c] (h : ¬ c) (k : Q (.bl false) H) : Q (.bl (decide c)) H := by
  rw [decide_eq_false h]
  exact k
theorem cut_ints (ns : List Int) (lo hi : Option Int) : ∃ ms : List Int, cutV (ns.map V.int) lo hi = ms.map V.int ∧ ms.length ≤ ns.length ∧ ∀ z ∈ ms, z ∈ ns := by
  refine ⟨(ns.drop (HT.sIx (ns.map V.int).length 0 lo)).take (HT.sIx (ns.map V.int).length (ns.map V.int).length hi - HT.sIx (ns.map V.int).length 0 lo), ?_, ?_, ?_⟩
  · unfold cutV
    rw [List.map_take, List.map_drop]
  · rw [List.length_take, List.length_drop]
    omega
  · intro z hz
    exact List.mem_of_mem_drop (List.mem_of_mem_take hz)
theorem int_at {ns : List Int} {i : Nat} {y : V} (h : (ns.map V.int)[i]? = some y) : ∃ z, y = V.int z ∧ ns[i]? = some z ∧ i < ns.length := by
  rw [List.getElem?_map] at h
  cases e : ns[i]? with
  | none =>
    rw [e] at h
    cases h
  | some z =>
    rw [e] at h
    exact ⟨z, (Option.some.inj h).symm, rfl, (List.getElem?_eq_some_iff.mp e).1⟩
theorem atI_lt {xs : List V} {k : Int} (h0 : 0 ≤ k) (h1 : k < xs.length) : ∃ v, atI xs k = some v ∧ xs[k.toNat]? = some v := by
  have hl : k.toNat < xs.length := by omega
  refine ⟨xs[k.toNat], ?_, List.getElem?_eq_getElem hl⟩
  obtain ⟨n, rfl⟩ : ∃ n : Nat, k = n := ⟨k.toNat, by omega⟩
  exact atI_nat (List.getElem?_eq_getElem hl)
theorem at2 {a b k : Int} (h0 : 0 ≤ k) (h1 : k < 2) : ∃ v, atI [V.int a, V.int b] k = some (V.int v) ∧ ((k = 0 ∧ v = a) ∨ (k = 1 ∧ v = b)) := by
  rcases (by omega : k = 0 ∨ k = 1) with rfl | rfl
  · exact ⟨a, rfl, .inl ⟨rfl, rfl⟩⟩
  · exact ⟨b, rfl, .inr ⟨rfl, rfl⟩⟩
theorem at3 {a b c k : Int} (h0 : 0 ≤ k) (h1 : k < 3) : ∃ v, atI [V.int a, V.int b, V.int c] k = some (V.int v) ∧ ((k = 0 ∧ v = a) ∨ (k = 1 ∧ v = b) ∨ (k = 2 ∧ v = c)) := by
  rcases (by omega : k = 0 ∨ k = 1 ∨ k = 2) with rfl | rfl | rfl
  · exact ⟨a, rfl, .inl ⟨rfl, rfl⟩⟩
  · exact ⟨b, rfl, .inr (.inl ⟨rfl, rfl⟩)⟩
  · exact ⟨c, rfl, .inr (.inr ⟨rfl, rfl⟩)⟩
/-- a call that writes all parameters, the last ones by name -/
theorem kb_all {K : PySem.W.Frag} {x qual : Str} {params : Arguments} {body : List Stmt} {scope : Scope} {dvs : List V} {kws : List (Str × V)} {f : Addr} {fd : FuncData} {ps : List Str} (F : FunD K x qual params body scope dvs kws f fd) (n : Nat) (ks : List Str) (hd : dvs ≠ [])
    (h : ∀ (T : Addr) (kV doc pm : Value) (an : Option Addr) (cdv ct : Value) (us its ws : List Value), us.length = n → its.length = dvs.length → ws.length = ks.length →
      ∃ k, bindArgs (PySem.W.fnOf x qual params body scope (.ref T) kV doc pm an cdv ct) ⟨us, ks.zip ws⟩ = seqItems? (.ref T) >>= k ∧ k (some its.toArray) = pure (ps.zip (us ++ ws))) : KBn K fd ps n ks (fun us ws => us ++ ws) (fun vs zs => vs ++ zs) := by
  obtain ⟨oc, od, dV, kV, doc, pm, an, cdv, ct, osl, rfl, lk, hcd, hD, _⟩ := F.ex
  rcases hD with ⟨e, _⟩ | ⟨_, T, o, its, m, rfl, lT, oT, rT⟩
  · exact absurd e hd
  · refine ⟨fun s us ws X h1 h2 => ?_, fun r1 r2 => r1.append r2⟩
    obtain ⟨k, e1, e2⟩ := h T kV doc pm an cdv ct us its ws h1 rT.length.symm h2
    refine BindsTo.of_looks fun M => ?_
    rw [e1]
    exact looks_items X lT oT (.of_pure e2)
theorem FunD.fd_eq {K : PySem.W.Frag} {x qual : Str} {params : Arguments} {body : List Stmt} {scope : Scope} {dvs : List V} {kws : List (Str × V)} {f : Addr} {fd fd' : FuncData} (F : FunD K x qual params body scope dvs kws f fd) (F' : FunD K x qual params body scope dvs kws f fd') : fd = fd' := by
  obtain ⟨_, _, _, _, _, _, _, _, _, _, _, l, _⟩ := F.ex
  obtain ⟨_, _, _, _, _, _, _, _, _, _, _, l', _⟩ := F'.ex
  rw [l] at l'
  simp only [Option.some.injEq, Obj.mk.injEq, Data.func.injEq] at l'
  exact l'.2.2.1
theorem at4 {a b c d k : Int} (h0 : 0 ≤ k) (h1 : k < 4) : ∃ v, atI ([a, b, c, d].map V.int) k = some (V.int v) := by
  rcases (by omega : k = 0 ∨ k = 1 ∨ k = 2 ∨ k = 3) with rfl | rfl | rfl | rfl
  · exact ⟨a, rfl⟩
  · exact ⟨b, rfl⟩
  · exact ⟨c, rfl⟩
  · exact ⟨d, rfl⟩
theorem small_size {n : Nat} (h : n ≤ 100000) : n ≤ sizeLine := Nat.le_trans h (by decide)
theorem Same.new {H H' : Hp} {p : Addr} {o : HO} (e : Same H H') (h : H' p = none) : Same H (upd H' p o) := fun a u q => by
  rw [upd_ne (ne_of_none (e a u q) h)]
  exact e a u q
theorem Same.mut {H H' : Hp} {p : Addr} {o : HO} (e : Same H H') (h : H p = none) : Same H (upd H' p o) := fun a u q => by
  rw [upd_ne (ne_of_none q h)]
  exact e a u q
/-- o.m(e, .., k = v, ..) -/
def tMethN (C : Addr) (m : Str) (n j : Nat) (sp : Sp) (gV : List V → List V → List V) (E : XK) (ta : TE) (t tk : TA) : TE := fun σ H Q => ta σ H fun x H1 => ∃ a dx fs, x = .ref a ∧ H1 a = some (.ins C dx fs) ∧ fs.lookup m = none ∧
  t σ H1 fun vs H2 => tk σ H2 fun zs H3 => vs.length = n ∧ zs.length = j ∧ sp (gV (x :: vs) zs) H3 Q E
theorem pe_methN {X : Cx} {CX : CXT} {k n : Nat} {f C : Addr} {fd : FuncData} {ps ks : List Str} {sp : Sp} {E : XK} {m : Str} {o e : Expr} {es : List Expr} {kws : List Keyword} {apos pos : Pos} {ta : TE} {t tk : TA} {g : List Value → List Value → List Value} {gV : List V → List V → List V} {pl : Sem Bool}
    (he : PE X o ta) (c : Cls X.K C) (hm : Meth X.K C m f) (F : FnOk X.prog X.w X.K X.mg X.base CX k f fd ps sp) (hr : Room k X.A) (hb : KBn X.K fd ps (n + 1) ks g gV) (hx : Passes CX X E) (ha : PA X (e :: es) t) (hkw : PK X kws tk)
    (hall : (backToKw pos (keywordEach kws X.env)).all (·.1.isSome) = true := by rfl)
    (hks : (backToKw pos (keywordEach kws X.env)).filterMap (·.1) = ks := by rfl)
    (hst : starEach (e :: es) X.env = (false, eval e X.env) :: starEach es X.env := by rfl)
    (hpl : ((backTo pos (starEach (e :: es) X.env)).any (·.1) || (backToKw pos (keywordEach kws X.env)).any (·.1.isNone)) = false := by rfl)
    (ht : eval (.Call (.Attribute o m apos) (e :: es) kws pos) X.env = (do
      let ov ← eval o X.env
      standAt apos.atName
      let (f, first) ← holding [ov] (getMethod ov m pl)
      callWith pos f first (backTo pos (starEach (e :: es) X.env)) (backToKw pos (keywordEach kws X.env))) := by rfl) :
    PE X (.Call (.Attribute o m apos) (e :: es) kws pos) (tMethN C m n ks.length sp gV E ta t tk) := by
  constructor
  intro pins s σ H Q I hh
  apply PySem.W.methodCall_KW (pl := pl) (he := ht)
  apply thn (he.run pins s σ H _ I hh)
  rintro u s1 ⟨x, H1, I1, rx, a, dx, fs, rfl, ea, l, q⟩
  obtain rfl : u = Value.ref a := rx
  apply getmeth_ok I1 ea c hm l
  apply PySem.W.callWith_KW (first := [.ref a]) (h₀ := X.base) I.ok.mod.kin hm.kp hall (hplain := hpl) (he := hst)
  apply thn (ha.run pos pins s1 σ H1 _ I1 q)
  rintro us s2 ⟨vs, H2, I2, r, q2⟩
  apply thn (hkw.run pos pins s2 σ H2 _ I2 q2)
  rintro ws s3 ⟨zs, H3, I3, rz, l1, l2, q3⟩
  refine ⟨I3.kIn, ?_⟩
  rw [hks]
  exact run_fnN (us := .ref a :: us) (vs := .ref a :: vs) F hr hb hx I3 (.cons rfl r) rz (congrArg Nat.succ l1) l2 q3
end L2
/-! ### the words of a reading: sd a side condition, rd one step, rds as many as go by themselves, ri a test -/
local macro_rules | `(tactic| walk_at "sd") => `(tactic| first
  | omega
  | (show (0 : Int) < _; omega)
  | (show (0 : Int) ≤ _; omega)
  | exact .inl ⟨by omega, by omega⟩
  | exact .inr ⟨by omega, by omega⟩
  | exact ⟨by decide, by decide⟩
  | exact ⟨by omega, by omega⟩
  | exact L2.small_size (Nat.le_of_ble_eq_true rfl)
  | assumption
  | exact ⟨_, by assumption⟩)
local macro_rules | `(tactic| walk_at "rd") => `(tactic| first
  | refine ⟨_, rfl, ?_⟩
  | refine ⟨_, _, rfl, rfl, ?_⟩
  | refine ⟨_, _, rfl, ?_⟩
  | refine ⟨_, _, _, rfl, ?_⟩
  | refine ⟨_, _, _, _, rfl, ?_⟩
  | refine ⟨_, _, _, _, _, rfl, ?_⟩
  | refine ⟨_, _, _, _, _, _, rfl, ?_⟩
  | refine ⟨rfl, ?_⟩
  | refine L2.iteF ?_
  | refine L2.iteT ?_
  | refine And.intro (by walk_at "sd") ?_
  | refine ⟨_, _, _, _, true, rfl, .ty _, .base (.int _), L2.kit_ty (by decide +kernel), ?_⟩
  | refine ⟨_, _, _, _, false, rfl, .ty _, .base (.int _), L2.kit_ty (by decide +kernel), ?_⟩)
local macro_rules | `(tactic| walk_at "rds") => `(tactic| repeat walk_at "rd")
local macro_rules | `(tactic| walk_at "rz") => `(tactic| repeat first
  | walk_at "rd"
  | refine fun (_ : Int) => ?_
  | refine fun (_ : (_ : Int) ≤ _) => ?_
  | refine fun (_ : (_ : Int) < _) => ?_)
local macro_rules | `(tactic| walk_at "ri") => `(tactic| first
  | refine L2.iteV ?_ ?_
  | refine L2.iteNV ?_ ?_
  | refine L2.iteD ?_ ?_
  | refine L2.iteND ?_ ?_
  | refine L2.iteB ?_ ?_)
local macro_rules | `(tactic| walk_at "nf") => `(tactic| try dsimp only [L2.start, List.set_cons_zero, List.set_cons_succ])
local macro_rules | `(tactic| walk_at "g94len") => `(tactic| (intro vs H Q E h; first
  | (obtain ⟨e, _⟩ := h; exact congrArg List.length e)
  | (obtain ⟨_, e, _⟩ := h; exact congrArg List.length e)
  | (obtain ⟨_, _, e, _⟩ := h; exact congrArg List.length e)
  | (obtain ⟨_, _, _, e, _⟩ := h; exact congrArg List.length e)
  | (obtain ⟨_, _, _, _, e, _⟩ := h; exact congrArg List.length e)
  | (obtain ⟨_, _, _, _, _, e, _⟩ := h; exact congrArg List.length e)
  | (obtain ⟨_, _, _, _, _, _, e, _⟩ := h; exact congrArg List.length e)
  | (obtain ⟨_, _, _, _, _, _, _, e, _⟩ := h; exact congrArg List.length e)
  | (obtain ⟨_, _, _, _, _, _, _, _, e, _⟩ := h; exact congrArg List.length e)
  | (obtain ⟨_, _, _, _, _, _, _, _, _, e, _⟩ := h; exact congrArg List.length e)
  | (obtain ⟨_, _, _, _, _, _, _, _, _, _, e, _⟩ := h; exact congrArg List.length e)))
namespace G94
open PySem PySem.Spec PyProof.Rows L2
def top (i : Nat) : Stmt := PySem.Challenge.pw_lampcues_k05_two_fades.main.body.getD i (.Pass ⟨0, 0, 0, 0⟩)
abbrev s_stand : Stmt := top 1
theorem sc_stand : FnScope ["start", "end", "length", "top", "bottom", "steps"] ["start", "end", "length", "top", "bottom"] (defScope s_stand) := ⟨rfl, rfl, rfl, by decide +kernel, rfl, by decide +kernel, by decide +kernel⟩
abbrev s_Course_init : Stmt := inClass (top 2) 0
theorem sc_Course_init : FnScope ["self", "worth"] ["self", "worth"] (defScope s_Course_init) := ⟨rfl, rfl, rfl, by decide +kernel, rfl, by decide +kernel, by decide +kernel⟩
abbrev s_Course_at : Stmt := inClass (top 2) 2
theorem sc_Course_at : FnScope ["self", "top", "bottom", "out", "start", "end", "length"] ["self", "top", "bottom"] (defScope s_Course_at) := ⟨rfl, rfl, rfl, by decide +kernel, rfl, by decide +kernel, by decide +kernel⟩
abbrev s_Course_tell : Stmt := inClass (top 2) 1
theorem sc_Course_tell : FnScope ["self", "now", "wait", "rise", "fall", "end", "out", "start", "length", "fade"] ["self", "now", "wait", "rise", "fall", "end"] (defScope s_Course_tell) := ⟨rfl, rfl, rfl, by decide +kernel, rfl, by decide +kernel, by decide +kernel⟩
abbrev s_Course_aim : Stmt := inClass (top 2) 3
theorem sc_Course_aim : FnScope ["self"] ["self"] (defScope s_Course_aim) := ⟨rfl, rfl, rfl, by decide +kernel, rfl, by decide +kernel, by decide +kernel⟩
abbrev s_Course_still : Stmt := inClass (top 2) 4
theorem sc_Course_still : FnScope ["self"] ["self"] (defScope s_Course_still) := ⟨rfl, rfl, rfl, by decide +kernel, rfl, by decide +kernel, by decide +kernel⟩
abbrev s_l_cell_at : Stmt := top 4
theorem sc_l_cell_at : FnScope ["_law_script", "_law_k"] ["_law_script", "_law_k"] (defScope s_l_cell_at) := ⟨rfl, rfl, rfl, by decide +kernel, rfl, by decide +kernel, by decide +kernel⟩
abbrev s_l_whole : Stmt := top 5
theorem sc_l_whole : FnScope ["_law_found"] ["_law_found"] (defScope s_l_whole) := ⟨rfl, rfl, rfl, by decide +kernel, rfl, by decide +kernel, by decide +kernel⟩
abbrev s_l_gone : Stmt := top 6
theorem sc_l_gone : FnScope ["_law_start_here", "_law_end", "_law_length_here", "_law_top", "_law_bottom"] ["_law_start_here", "_law_end", "_law_length_here", "_law_top", "_law_bottom"] (defScope s_l_gone) := ⟨rfl, rfl, rfl, by decide +kernel, rfl, by decide +kernel, by decide +kernel⟩
abbrev s_l_spot : Stmt := top 7
theorem sc_l_spot : FnScope ["_law_cell", "_law_ticks", "_law_bottom", "_law_number", "_law_tick"] ["_law_cell", "_law_ticks"] (defScope s_l_spot) := ⟨rfl, rfl, rfl, by decide +kernel, rfl, by decide +kernel, by decide +kernel⟩
abbrev s_l_fade : Stmt := top 8
theorem sc_l_fade : FnScope ["_law_script", "_law_k", "_law_most", "_law_now", "_law_times", "_law_j"] ["_law_script", "_law_k", "_law_most"] (defScope s_l_fade) := ⟨rfl, rfl, rfl, by decide +kernel, rfl, by decide +kernel, by decide +kernel⟩
abbrev s_l_length : Stmt := top 9
theorem sc_l_length : FnScope ["_law_fade_here", "_law_start_here"] ["_law_fade_here", "_law_start_here"] (defScope s_l_length) := ⟨rfl, rfl, rfl, by decide +kernel, rfl, by decide +kernel, by decide +kernel⟩
abbrev s_l_start : Stmt := top 10
theorem sc_l_start : FnScope ["_law_first", "_law_one", "_law_other", "_law_out", "_law_late"] ["_law_first", "_law_one", "_law_other"] (defScope s_l_start) := ⟨rfl, rfl, rfl, by decide +kernel, rfl, by decide +kernel, by decide +kernel⟩
abbrev s_l_due : Stmt := top 11
theorem sc_l_due : FnScope ["_law_first", "_law_one", "_law_other", "_law_top", "_law_bottom", "_law_out", "_law_late", "_law_start_here"] ["_law_first", "_law_one", "_law_other", "_law_top", "_law_bottom"] (defScope s_l_due) := ⟨rfl, rfl, rfl, by decide +kernel, rfl, by decide +kernel, by decide +kernel⟩
abbrev s_l_ends : Stmt := top 12
theorem sc_l_ends : FnScope ["_law_first", "_law_one", "_law_other", "_law_out", "_law_late", "_law_start_here"] ["_law_first", "_law_one", "_law_other"] (defScope s_l_ends) := ⟨rfl, rfl, rfl, by decide +kernel, rfl, by decide +kernel, by decide +kernel⟩
abbrev s_law : Stmt := top 13
theorem sc_law : FnScope ["_law_script", "_law_first", "_law_most", "_law_one", "_law_other", "_law_way", "_law_ticks", "_law_course", "_law_cell", "_law_top", "_law_bottom", "_law_found", "_law_aim", "_law_still"] ["_law_script"] (defScope s_law) := ⟨rfl, rfl, rfl, by decide +kernel, rfl, by decide +kernel, by decide +kernel⟩
def d_stand : He.DefD := ⟨("stand", none), "stand", "stand", defArgs s_stand, defBody s_stand, defScope s_stand, [.int 1], []⟩
def d_Course_init : He.DefD := ⟨("Course", some "__init__"), "__init__", "Course.__init__", defArgs s_Course_init, defBody s_Course_init, defScope s_Course_init, [.int 0], []⟩
def d_Course_at : He.DefD := ⟨("Course", some "at"), "at", "Course.at", defArgs s_Course_at, defBody s_Course_at, defScope s_Course_at, [.int 1], []⟩
def d_Course_tell : He.DefD := ⟨("Course", some "tell"), "tell", "Course.tell", defArgs s_Course_tell, defBody s_Course_tell, defScope s_Course_tell, [], []⟩
def d_Course_aim : He.DefD := ⟨("Course", some "aim"), "aim", "Course.aim", defArgs s_Course_aim, defBody s_Course_aim, defScope s_Course_aim, [], []⟩
def d_Course_still : He.DefD := ⟨("Course", some "still"), "still", "Course.still", defArgs s_Course_still, defBody s_Course_still, defScope s_Course_still, [], []⟩
def d_l_cell_at : He.DefD := ⟨("_law_cell_at", none), "_law_cell_at", "_law_cell_at", defArgs s_l_cell_at, defBody s_l_cell_at, defScope s_l_cell_at, [], []⟩
def d_l_whole : He.DefD := ⟨("_law_whole", none), "_law_whole", "_law_whole", defArgs s_l_whole, defBody s_l_whole, defScope s_l_whole, [], []⟩
def d_l_gone : He.DefD := ⟨("_law_gone", none), "_law_gone", "_law_gone", defArgs s_l_gone, defBody s_l_gone, defScope s_l_gone, [], []⟩
def d_l_spot : He.DefD := ⟨("_law_spot", none), "_law_spot", "_law_spot", defArgs s_l_spot, defBody s_l_spot, defScope s_l_spot, [], []⟩
def d_l_fade : He.DefD := ⟨("_law_fade", none), "_law_fade", "_law_fade", defArgs s_l_fade, defBody s_l_fade, defScope s_l_fade, [], []⟩
def d_l_length : He.DefD := ⟨("_law_length", none), "_law_length", "_law_length", defArgs s_l_length, defBody s_l_length, defScope s_l_length, [], []⟩
def d_l_start : He.DefD := ⟨("_law_start", none), "_law_start", "_law_start", defArgs s_l_start, defBody s_l_start, defScope s_l_start, [], []⟩
def d_l_due : He.DefD := ⟨("_law_due", none), "_law_due", "_law_due", defArgs s_l_due, defBody s_l_due, defScope s_l_due, [], []⟩
def d_l_ends : He.DefD := ⟨("_law_ends", none), "_law_ends", "_law_ends", defArgs s_l_ends, defBody s_l_ends, defScope s_l_ends, [], []⟩
def d_law : He.DefD := ⟨("law", none), "law", "law", defArgs s_law, defBody s_law, defScope s_law, [], []⟩
def fn : List He.DefD := [d_stand, d_Course_init, d_Course_at, d_Course_tell, d_Course_aim, d_Course_still, d_l_cell_at, d_l_whole, d_l_gone, d_l_spot, d_l_fade, d_l_length, d_l_start, d_l_due, d_l_ends, d_law]
def fa : List He.Fa := [.glo "stand", .glo "_law_cell_at", .glo "_law_whole", .glo "_law_gone", .glo "_law_spot", .glo "_law_fade", .glo "_law_length", .glo "_law_start", .glo "_law_due", .glo "_law_ends", .glo "law", .glo "Course", .free "len", .free "abs", .free "max", .free "sum", .free "isinstance", .free "int", .free "bool", .free "min", .free "reversed", .free "range", .cls "Course", .mkr "Course", .noat "Course" "first", .noat "Course" "fades", .meth "Course" "tell", .meth "Course" "at", .meth "Course" "aim", .meth "Course" "still"]
/-- what the top leaves -/
structure Txt (K : PySem.W.Frag) (mg : Str → Option Value) : Prop where
  c : He.SaysD fa fn K
  hp : ∃ h : Heap, K.In h ∧ h.Ns mainGlobals mg
section
variable {K : PySem.W.Frag} {mg : Str → Option Value}
theorem glo_stand (T : Txt K mg) : mg "stand" = some (.ref (He.ga K "stand")) := by
  obtain ⟨h, X, G⟩ := T.hp
  exact He.glo_ok X G (T.c.fact 0 rfl)
theorem glo__law_cell_at (T : Txt K mg) : mg "_law_cell_at" = some (.ref (He.ga K "_law_cell_at")) := by
  obtain ⟨h, X, G⟩ := T.hp
  exact He.glo_ok X G (T.c.fact 1 rfl)
theorem glo__law_whole (T : Txt K mg) : mg "_law_whole" = some (.ref (He.ga K "_law_whole")) := by
  obtain ⟨h, X, G⟩ := T.hp
  exact He.glo_ok X G (T.c.fact 2 rfl)
theorem glo__law_gone (T : Txt K mg) : mg "_law_gone" = some (.ref (He.ga K "_law_gone")) := by
  obtain ⟨h, X, G⟩ := T.hp
  exact He.glo_ok X G (T.c.fact 3 rfl)
theorem glo__law_spot (T : Txt K mg) : mg "_law_spot" = some (.ref (He.ga K "_law_spot")) := by
  obtain ⟨h, X, G⟩ := T.hp
  exact He.glo_ok X G (T.c.fact 4 rfl)
theorem glo__law_fade (T : Txt K mg) : mg "_law_fade" = some (.ref (He.ga K "_law_fade")) := by
  obtain ⟨h, X, G⟩ := T.hp
  exact He.glo_ok X G (T.c.fact 5 rfl)
theorem glo__law_length (T : Txt K mg) : mg "_law_length" = some (.ref (He.ga K "_law_length")) := by
  obtain ⟨h, X, G⟩ := T.hp
  exact He.glo_ok X G (T.c.fact 6 rfl)
theorem glo__law_start (T : Txt K mg) : mg "_law_start" = some (.ref (He.ga K "_law_start")) := by
  obtain ⟨h, X, G⟩ := T.hp
  exact He.glo_ok X G (T.c.fact 7 rfl)
theorem glo__law_due (T : Txt K mg) : mg "_law_due" = some (.ref (He.ga K "_law_due")) := by
  obtain ⟨h, X, G⟩ := T.hp
  exact He.glo_ok X G (T.c.fact 8 rfl)
theorem glo__law_ends (T : Txt K mg) : mg "_law_ends" = some (.ref (He.ga K "_law_ends")) := by
  obtain ⟨h, X, G⟩ := T.hp
  exact He.glo_ok X G (T.c.fact 9 rfl)
theorem glo_law (T : Txt K mg) : mg "law" = some (.ref (He.ga K "law")) := by
  obtain ⟨h, X, G⟩ := T.hp
  exact He.glo_ok X G (T.c.fact 10 rfl)
theorem glo_Course (T : Txt K mg) : mg "Course" = some (.ref (He.ga K "Course")) := by
  obtain ⟨h, X, G⟩ := T.hp
  exact He.glo_ok X G (T.c.fact 11 rfl)
theorem free_len (T : Txt K mg) : mg "len" = none := by
  obtain ⟨h, X, G⟩ := T.hp
  exact He.free_ok X G (T.c.fact 12 rfl)
theorem free_abs (T : Txt K mg) : mg "abs" = none := by
  obtain ⟨h, X, G⟩ := T.hp
  exact He.free_ok X G (T.c.fact 13 rfl)
theorem free_max (T : Txt K mg) : mg "max" = none := by
  obtain ⟨h, X, G⟩ := T.hp
  exact He.free_ok X G (T.c.fact 14 rfl)
theorem free_sum (T : Txt K mg) : mg "sum" = none := by
  obtain ⟨h, X, G⟩ := T.hp
  exact He.free_ok X G (T.c.fact 15 rfl)
theorem free_isinstance (T : Txt K mg) : mg "isinstance" = none := by
  obtain ⟨h, X, G⟩ := T.hp
  exact He.free_ok X G (T.c.fact 16 rfl)
theorem free_int (T : Txt K mg) : mg "int" = none := by
  obtain ⟨h, X, G⟩ := T.hp
  exact He.free_ok X G (T.c.fact 17 rfl)
theorem free_bool (T : Txt K mg) : mg "bool" = none := by
  obtain ⟨h, X, G⟩ := T.hp
  exact He.free_ok X G (T.c.fact 18 rfl)
theorem free_min (T : Txt K mg) : mg "min" = none := by
  obtain ⟨h, X, G⟩ := T.hp
  exact He.free_ok X G (T.c.fact 19 rfl)
theorem free_reversed (T : Txt K mg) : mg "reversed" = none := by
  obtain ⟨h, X, G⟩ := T.hp
  exact He.free_ok X G (T.c.fact 20 rfl)
theorem free_range (T : Txt K mg) : mg "range" = none := by
  obtain ⟨h, X, G⟩ := T.hp
  exact He.free_ok X G (T.c.fact 21 rfl)
theorem fact_cls_Course (T : Txt K mg) : (He.Fa.ok K (.cls "Course")) = true := T.c.fact 22 rfl
theorem fact_mk_Course (T : Txt K mg) : (He.Fa.ok K (.mkr "Course")) = true := T.c.fact 23 rfl
theorem fact_na_Course_first (T : Txt K mg) : (He.Fa.ok K (.noat "Course" "first")) = true := T.c.fact 24 rfl
theorem fact_na_Course_fades (T : Txt K mg) : (He.Fa.ok K (.noat "Course" "fades")) = true := T.c.fact 25 rfl
theorem fact_m_Course_tell (T : Txt K mg) : (He.Fa.ok K (.meth "Course" "tell")) = true := T.c.fact 26 rfl
theorem fact_m_Course_at (T : Txt K mg) : (He.Fa.ok K (.meth "Course" "at")) = true := T.c.fact 27 rfl
theorem fact_m_Course_aim (T : Txt K mg) : (He.Fa.ok K (.meth "Course" "aim")) = true := T.c.fact 28 rfl
theorem fact_m_Course_still (T : Txt K mg) : (He.Fa.ok K (.meth "Course" "still")) = true := T.c.fact 29 rfl
end
section
variable {K : PySem.W.Frag} {mg : Str → Option Value}
theorem cls_Course (T : Txt K mg) : Cls K (He.ga K "Course") := He.cls_ok (fact_cls_Course T)
theorem mk_Course (T : Txt K mg) : Mk K (He.ga K "Course") (He.ma K (He.ga K "Course") "__init__") := He.mkr_ok (fact_mk_Course T)
theorem na_Course_first (T : Txt K mg) : NoAttr K (He.ga K "Course") "first" := He.noat_ok (fact_na_Course_first T)
theorem na_Course_fades (T : Txt K mg) : NoAttr K (He.ga K "Course") "fades" := He.noat_ok (fact_na_Course_fades T)
theorem m_Course_tell (T : Txt K mg) : Meth K (He.ga K "Course") "tell" (He.ma K (He.ga K "Course") "tell") := He.meth_ok (fact_m_Course_tell T)
theorem m_Course_at (T : Txt K mg) : Meth K (He.ga K "Course") "at" (He.ma K (He.ga K "Course") "at") := He.meth_ok (fact_m_Course_at T)
theorem m_Course_aim (T : Txt K mg) : Meth K (He.ga K "Course") "aim" (He.ma K (He.ga K "Course") "aim") := He.meth_ok (fact_m_Course_aim T)
theorem m_Course_still (T : Txt K mg) : Meth K (He.ga K "Course") "still" (He.ma K (He.ga K "Course") "still") := He.meth_ok (fact_m_Course_still T)
end
section
variable {P : Program} {w : World} {K : PySem.W.Frag} {mg : Str → Option Value} {base : Heap}
/-! ### stand -/
def way (s e : Int) : Int := if e - s < 0 then -(e - s) else e - s
def stand (s e l t b : Int) : Int :=
  if t < 0 then s else if b * l ≤ t then e else if e < s then s - way s e * t / (b * l) else s + way s e * t / (b * l)
/-- how far the numbers may go -/
def Fits (s e l b : Int) : Prop := 0 ≤ s ∧ s ≤ 1000000000000000000 ∧ 0 ≤ e ∧ e ≤ 1000000000000000000 ∧ 0 ≤ l ∧ l ≤ 1000000000000000000 ∧ 1 ≤ b ∧ b ≤ 1000000000000000000
theorem way_bound {s e l b : Int} (h : Fits s e l b) : 0 ≤ way s e ∧ way s e ≤ 1000000000000000000 := by
  obtain ⟨s0, s1, e0, e1, l0, l1, b0, b1⟩ := h
  unfold way
  split <;> omega
theorem bl_bound {s e l b : Int} (h : Fits s e l b) : (b * l).natAbs < 2 ^ 121 := by
  obtain ⟨s0, s1, e0, e1, l0, l1, b0, b1⟩ := h
  rw [Int.natAbs_mul]
  have h1 : b.natAbs ≤ 10 ^ 18 := by omega
  have h2 : l.natAbs ≤ 10 ^ 18 := by omega
  exact Nat.lt_of_le_of_lt (Nat.mul_le_mul h1 h2) (by decide)
theorem bl_pos {s e l t b : Int} (h : Fits s e l b) (h0 : ¬ t < 0) (h1 : ¬ b * l ≤ t) : 0 < b * l := by omega
def spStand : Sp := fun vs H Q _ => ∃ s e l t b, vs = [.int s, .int e, .int l, .int t, .int b] ∧ Fits s e l b ∧ Q (.int (stand s e l t b)) H
theorem ok_stand (T : Txt K mg) : ∃ fd, FnOk P w K mg base CX0 1 (He.fAd K ("stand", none)) fd ["start", "end", "length", "top", "bottom"] spStand ∧ FunD K "stand" "stand" (defArgs s_stand) (defBody s_stand) (defScope s_stand) [V.int 1] [] (He.fAd K ("stand", none)) fd := by
  obtain ⟨fd, F⟩ := T.c.def_ 0 (d := d_stand) rfl
  refine ⟨fd, F.ok sc_stand (by walk_at "g94len") (fun cdv A outer st H vs Q E hr h => ?_), F⟩
  · obtain ⟨s, e, l, t, b, rfl, hf, k⟩ := h
    refine ⟨_, PSs.nox (pss_cons (ps_if (pt_cmpR op_lt (pv 3) pe_int (nomark _)) (pss_one (ps_ret (pv 0))) pss_nil)
        (pss_cons (ps_if (pt_cmpR op_ge (pv 3) (pe_op op_mul (pv 4) (pv 2)) (nomark _)) (pss_one (ps_ret (pv 1))) pss_nil)
        (pss_cons (ps_set (i := 5) sc_stand.nd rfl (Or.inl rfl) (pe_op op_fdivW (pe_op op_mul (pe_callB call_abs (by rfl) (free_abs T) (by decide +kernel) (pa_cons (pe_op op_sub (pv 1) (pv 0)) pa_nil)) (pv 3)) (pe_op op_mul (pv 4) (pv 2))))
        (pss_cons (ps_if (pt_cmpR op_lt (pv 1) (pv 0) (nomark _)) (pss_one (ps_ret (pe_op op_sub (pv 0) (pv 5)))) pss_nil)
        (pss_one (ps_ret (pe_op op_add (pv 0) (pv 5)))))))), ?_⟩
    unfold stand at k
    have hf' := hf
    obtain ⟨s0, s1, e0, e1, l0, l1, b0, b1⟩ := hf'
    have wb := way_bound hf
    walk_at "rds"
    walk_at "ri" <;> intro c1
    · rw [if_pos c1] at k
      exact ⟨_, rfl, k⟩
    rw [if_neg c1] at k
    refine ⟨_, rfl, _, rfl, _, rfl, _, _, rfl, rfl, .inl ⟨by omega, by omega⟩, _, _, rfl, rfl, _, rfl, ?_⟩
    walk_at "ri" <;> intro c2
    · rw [if_pos c2] at k
      exact ⟨_, rfl, k⟩
    rw [if_neg c2] at k
    have hp := bl_pos hf c1 c2
    refine ⟨_, rfl, _, rfl, _, _, rfl, rfl, _, rfl, _, rfl, _, _, rfl, rfl, .inl ⟨?_, ?_⟩, ?_⟩
    · show -(2 ^ 64) < way s e
      omega
    · show way s e < 2 ^ 64
      omega
    refine ⟨_, rfl, _, rfl, _, _, rfl, rfl, .inl ⟨by omega, by omega⟩, _, _, rfl, rfl, wide_div hp (bl_bound hf) (by decide) (by decide), ?_⟩
    refine ⟨_, rfl, _, rfl, _, _, rfl, rfl, _, rfl, ?_⟩
    walk_at "ri" <;> intro c3
    · rw [if_pos c3] at k
      exact ⟨_, rfl, _, rfl, _, _, rfl, rfl, k⟩
    · rw [if_neg c3] at k
      exact ⟨_, rfl, _, rfl, _, _, rfl, rfl, k⟩
/-! ### courses: the data -/
structure Fade where
  out : Int
  start : Int
  fin : Int
  len : Int
def Fade.v (f : Fade) : List V := [.int f.out, .int f.start, .int f.fin, .int f.len]
structure Crs where
  first : Int
  fades : List Fade
def look (first t b : Int) : List Fade → Int
  | [] => first
  | f :: r => if f.out * b ≤ t then stand f.start f.fin f.len (t - f.out * b) b else look first t b r
theorem look_yes {first t b : Int} {f : Fade} {r : List Fade} (h : f.out * b ≤ t) : look first t b (f :: r) = stand f.start f.fin f.len (t - f.out * b) b := if_pos h
theorem look_no {first t b : Int} {f : Fade} {r : List Fade} (h : ¬ f.out * b ≤ t) : look first t b (f :: r) = look first t b r := if_neg h
def Crs.pos (c : Crs) (t b : Int) : Int := look c.first t b c.fades.reverse
def kept (o : Int) (fs : List Fade) : List Fade := fs.filter fun f => decide (f.out < o)
def Crs.tell (c : Crs) (now wait rise fall fin : Int) : Crs :=
  ⟨c.first, kept (now + wait) c.fades ++ [⟨now + wait, look c.first (now + wait) 1 (kept (now + wait) c.fades).reverse, fin, if look c.first (now + wait) 1 (kept (now + wait) c.fades).reverse < fin then rise else fall⟩]⟩
def Crs.aim (c : Crs) : Int := match c.fades.getLast? with
  | none => c.first
  | some f => f.fin
def Crs.still (c : Crs) : Int := match c.fades.getLast? with
  | none => 0
  | some f => f.out + f.len
def Inr (x : Int) : Prop := 0 ≤ x ∧ x ≤ 1000000000000000000
structure Fade.Good (f : Fade) : Prop where
  s : Inr f.start
  e : Inr f.fin
  l : Inr f.len
structure Crs.Good (c : Crs) : Prop where
  f : Inr c.first
  fs : ∀ f ∈ c.fades, f.Good
theorem stand_in {s e l t b : Int} (hs : Inr s) (he : Inr e) (hl : Inr l) (hb : 1 ≤ b) : Inr (stand s e l t b) := by
  obtain ⟨s0, s1⟩ := hs
  obtain ⟨e0, e1⟩ := he
  obtain ⟨l0, l1⟩ := hl
  unfold stand
  by_cases c1 : t < 0
  · rw [if_pos c1]
    exact ⟨s0, s1⟩
  rw [if_neg c1]
  by_cases c2 : b * l ≤ t
  · rw [if_pos c2]
    exact ⟨e0, e1⟩
  rw [if_neg c2]
  have hp : 0 < b * l := by omega
  have hw : 0 ≤ way s e := by
    unfold way
    split <;> omega
  have g0 : 0 ≤ way s e * t / (b * l) := Int.ediv_nonneg (Int.mul_nonneg hw (by omega)) (by omega)
  have g1 : way s e * t / (b * l) ≤ way s e := by
    have h2 : way s e * t ≤ way s e * (b * l) := Int.mul_le_mul_of_nonneg_left (by omega) hw
    have h3 : way s e * t / (b * l) * (b * l) ≤ way s e * t := Int.ediv_mul_le _ (by omega)
    exact Int.le_of_mul_le_mul_right (Int.le_trans h3 h2) hp
  generalize way s e * t / (b * l) = g at g0 g1 ⊢
  unfold way at g1
  unfold Inr
  by_cases c3 : e < s
  · rw [if_pos c3]
    split at g1 <;> omega
  · rw [if_neg c3]
    split at g1 <;> omega
theorem look_in {first t b : Int} (h0 : Inr first) (hb : 1 ≤ b) : ∀ {fs : List Fade}, (∀ f ∈ fs, f.Good) → Inr (look first t b fs)
  | [], _ => h0
  | f :: r, h => by
    unfold look
    have hf := h f List.mem_cons_self
    split
    · exact stand_in hf.s hf.e hf.l hb
    · exact look_in h0 hb fun g hg => h g (List.mem_cons_of_mem _ hg)
theorem kept_good {o : Int} {fs : List Fade} (h : ∀ f ∈ fs, f.Good) : ∀ f ∈ kept o fs, f.Good := fun f hf => h f (List.mem_filter.mp hf).1
theorem Crs.Good.tell {c : Crs} (h : c.Good) {now wait rise fall fin : Int} (hr : Inr rise) (hf : Inr fall) (he : Inr fin) : (c.tell now wait rise fall fin).Good := by
  refine ⟨h.f, fun f hm => ?_⟩
  rcases List.mem_append.mp hm with hm | hm
  · exact kept_good h.fs f hm
  · have e := List.mem_singleton.mp hm
    subst e
    refine ⟨?_, he, ?_⟩
    · exact look_in h.f (by decide) fun g hg => kept_good h.fs g (List.mem_reverse.mp hg)
    · show Inr (if _ then rise else fall)
      split
      · exact hr
      · exact hf
theorem Crs.tell_len (c : Crs) (now wait rise fall fin : Int) : (c.tell now wait rise fall fin).fades.length ≤ c.fades.length + 1 := by
  have h := List.length_filter_le (fun f : Fade => decide (f.out < now + wait)) c.fades
  show (kept (now + wait) c.fades ++ [_]).length ≤ _
  rw [List.length_append]
  unfold kept
  simp only [List.length_cons, List.length_nil]
  omega
/-! ### courses: the heap -/
def TupsAt (H : Hp) (ts : List Addr) (fs : List Fade) : Prop := ts.length = fs.length ∧ ∀ (i : Nat) t f, ts[i]? = some t → fs[i]? = some f → H t = some (.tup f.v)
theorem TupsAt.mono {H H' : Hp} {ts : List Addr} {fs : List Fade} (h : TupsAt H ts fs) (e : ∀ t xs, H t = some (.tup xs) → H' t = some (.tup xs)) : TupsAt H' ts fs := ⟨h.1, fun i t f a b => e _ _ (h.2 i t f a b)⟩
theorem TupsAt.snoc {H : Hp} {ts : List Addr} {fs : List Fade} (h : TupsAt H ts fs) {t : Addr} {f : Fade} (ht : H t = some (.tup f.v)) : TupsAt H (ts ++ [t]) (fs ++ [f]) := by
  refine ⟨by rw [List.length_append, List.length_append, h.1]; rfl, fun i u g a b => ?_⟩
  by_cases hi : i < ts.length
  · rw [List.getElem?_append_left hi] at a
    rw [List.getElem?_append_left (by rw [← h.1]; exact hi)] at b
    exact h.2 i u g a b
  · have hi' : ts.length ≤ i := by omega
    rw [List.getElem?_append_right hi'] at a
    rw [List.getElem?_append_right (by rw [← h.1]; exact hi'), ← h.1] at b
    cases hk : i - ts.length with
    | zero =>
      rw [hk] at a b
      have e1 : t = u := Option.some.inj a
      have e2 : f = g := Option.some.inj b
      rw [← e1, ← e2]
      exact ht
    | succ k =>
      rw [hk] at a
      cases a
abbrev cC (K : PySem.W.Frag) : Addr := He.ga K "Course"
def cflds (z : Int) (l : Addr) : List (Str × V) := [(("first" : Str), V.int z), (("fades" : Str), V.ref l)]
theorem nff : ¬ (("first" : Str) = "fades") := by decide +kernel
theorem nff2 : ¬ (("fades" : Str) = "first") := by decide +kernel
theorem cf_first (z : Int) (l : Addr) : (cflds z l).lookup ("first" : Str) = some (.int z) := by simp [cflds, List.lookup]
theorem cf_fades (z : Int) (l : Addr) : (cflds z l).lookup ("fades" : Str) = some (.ref l) := by
  have e : (("fades" : Str) == ("first" : Str)) = false := by simpa using nff2
  simp [cflds, List.lookup, e]
theorem cf_no (z : Int) (l : Addr) {m : Str} (h1 : ¬ m = ("first" : Str)) (h2 : ¬ m = ("fades" : Str)) : (cflds z l).lookup m = none := by
  have e1 : (m == ("first" : Str)) = false := by simpa using h1
  have e2 : (m == ("fades" : Str)) = false := by simpa using h2
  simp [cflds, List.lookup, e1, e2]
theorem cf_make (z : Int) (l : Addr) : putF "fades" (.ref l) (putF "first" (.int z) []) = cflds z l := by
  simp [putF, cflds, nff]
theorem cf_put (z : Int) (l l' : Addr) : putF "fades" (.ref l') (cflds z l) = cflds z l' := by
  simp [putF, cflds, nff]
structure CrsAt (K : PySem.W.Frag) (H : Hp) (p : Addr) (c : Crs) : Prop where
  ob : ∃ dx l ts, H p = some (.ins (cC K) dx (cflds c.first l)) ∧ H l = some (.lst (ts.map V.ref)) ∧ TupsAt H ts c.fades
/-- a course stays where all that was tracked stays -/
theorem CrsAt.same {K : PySem.W.Frag} {H H' : Hp} {p : Addr} {c : Crs} (h : CrsAt K H p c) (e : Same H H') : CrsAt K H' p c := by
  obtain ⟨dx, l, ts, h1, h2, h3⟩ := h.ob
  exact ⟨dx, l, ts, e _ _ h1, e _ _ h2, h3.mono fun t xs q => e _ _ q⟩
theorem made_same {H H1 : Hp} {C x dx : Addr} (hx : H x = none) (hd : H dx = none) (k : ∀ b o, upd (upd H dx (.own x)) x (.ins C dx []) b = some o → b ≠ x → H1 b = some o) : Same H H1 := fun b o e => by
  refine k b o ?_ (ne_of_none e hx)
  rw [upd_ne (ne_of_none e hx), upd_ne (ne_of_none e hd)]
  exact e
theorem CrsAt.list {K : PySem.W.Frag} {H H' : Hp} {p : Addr} {c : Crs} (h : CrsAt K H p c) (k : ∀ b o, H b = some o → b ≠ p → H' b = some o) {a : Addr} {xs : List V} (hS : SqL K H a xs) : SqL K H' a xs := by
  obtain ⟨dx, l, ts, h1, _, _⟩ := h.ob
  rcases hS with (q | ⟨o, q⟩) | q
  · exact .inl (.inl (k _ _ q (ne_of q h1 (by intro z; cases z))))
  · exact .inl (.inr ⟨o, k _ _ q (ne_of q h1 (by intro z; cases z))⟩)
  · exact .inr q
theorem CrsAt.tup {K : PySem.W.Frag} {H H' : Hp} {p : Addr} {c : Crs} (h : CrsAt K H p c) (k : ∀ b o, H b = some o → b ≠ p → H' b = some o) {a : Addr} {xs : List V} (e : H a = some (.tup xs)) : H' a = some (.tup xs) := by
  obtain ⟨dx, l, ts, h1, _, _⟩ := h.ob
  exact k _ _ e (ne_of e h1 (by intro z; cases z))
def FPy (fs : List Fade) : List PyData := fs.map fun f => .tuple [.int f.out, .int f.start, .int f.fin, .int f.len]
theorem fpy_lay : ∀ fs : List Fade, PyData.canLayAll0 (FPy fs) = true
  | [] => by simp [FPy, PyData.canLayAll0]
  | f :: r => by
    have ih := fpy_lay r
    unfold FPy at ih ⊢
    simp [PyData.canLayAll0, PyData.canLay0, ih]
theorem fpy_depth : ∀ fs : List Fade, PyData.depthAll (FPy fs) ≤ 1
  | [] => by simp [FPy, PyData.depthAll]
  | f :: r => by
    have ih := fpy_depth r
    unfold FPy at ih ⊢
    simp only [List.map_cons, PyData.depthAll, PyData.depth]
    omega
theorem fpy_shaped (fs : List Fade) : SeqAt.shaped (.list (FPy fs)) = true := by
  unfold SeqAt.shaped
  rw [Bool.and_eq_true]
  refine ⟨by simp only [PyData.canLay0]; exact fpy_lay fs, decide_eq_true ?_⟩
  have h := fpy_depth fs
  simp only [PyData.depth]
  omega
theorem dp_fades {K : PySem.W.Frag} {H : Hp} : ∀ {ts : List Addr} {fs : List Fade}, TupsAt H ts fs → DpAll K H (ts.map V.ref) (FPy fs)
  | [], [], _ => .nil
  | [], _ :: _, h => by cases h.1
  | _ :: _, [], h => by cases h.1
  | t :: ts, f :: fs, h => by
    have h0 : H t = some (.tup f.v) := h.2 0 t f rfl rfl
    have hr : TupsAt H ts fs := ⟨Nat.succ.inj h.1, fun i u g a b => h.2 (i + 1) u g a b⟩
    exact .cons (.tup (SqT.of h0) (.cons (.int _) (.cons (.int _) (.cons (.int _) (.cons (.int _) .nil))))) (dp_fades hr)
theorem eqv_nil (fs : List Fade) : PyData.eqv (.list (FPy fs)) (.list []) = decide (fs = []) := by
  cases fs with
  | nil => simp [FPy, PyData.eqv, PyData.eqvAll]
  | cons f r => simp [FPy, PyData.eqv, PyData.eqvAll]
/-! ### the methods -/
def spInit (K : PySem.W.Frag) : Sp := fun vs H Q _ => ∃ (p dx : Addr) (z : Int), vs = [.ref p, .int z] ∧ H p = some (.ins (cC K) dx []) ∧ ∀ H', CrsAt K H' p ⟨z, []⟩ → (∀ b o, H b = some o → b ≠ p → H' b = some o) → Q .non H'
theorem ok_Course_init (T : Txt K mg) : ∃ fd, FnOk P w K mg base CX0 1 (He.fAd K ("Course", some "__init__")) fd ["self", "worth"] (spInit K) ∧ FunD K "__init__" "Course.__init__" (defArgs s_Course_init) (defBody s_Course_init) (defScope s_Course_init) [V.int 0] [] (He.fAd K ("Course", some "__init__")) fd := by
  obtain ⟨fd, F⟩ := T.c.def_ 1 (d := d_Course_init) rfl
  refine ⟨fd, F.ok sc_Course_init (by walk_at "g94len") (fun cdv A outer st H vs Q E hr h => ?_), F⟩
  · obtain ⟨p, dx, z, rfl, hp, k⟩ := h
    refine ⟨_, PSs.nox (pss_cons (ps_fld (pv 0) (pv 1) rfl)
        (pss_one (ps_fld (pv 0) (pe_lst pa_nil) rfl))), ?_⟩
    refine ⟨_, rfl, _, rfl, p, cC K, dx, [], rfl, hp, cls_Course T, na_Course_first T, (by show 0 < 1000; decide), ?_⟩
    refine ⟨small_size (Nat.le_of_ble_eq_true rfl), fun l hl => ?_⟩
    have npl : p ≠ l := ne_of_none upd_same hl
    refine ⟨_, rfl, p, cC K, dx, _, rfl, (by rw [upd_ne npl]; exact upd_same), cls_Course T, na_Course_fades T, (by show 1 < 1000; decide), ?_⟩
    refine k _ ⟨dx, l, [], ?_, ?_, rfl, fun i t f a => by cases a⟩ fun b o hb hn => ?_
    · rw [upd_same, cf_make]
    · rw [upd_ne npl.symm, upd_same]
      rfl
    · have hl' : H l = none := by
        rw [upd_ne npl.symm] at hl
        exact hl
      rw [upd_ne hn, upd_ne (ne_of_none hb hl'), upd_ne hn]
      exact hb
def spAt (K : PySem.W.Frag) : Sp := fun vs H Q _ => ∃ (p : Addr) (c : Crs) (t b : Int), vs = [.ref p, .int t, .int b] ∧ CrsAt K H p c ∧ c.Good ∧ 1 ≤ b ∧ b ≤ 1000000000000000000 ∧ Q (.int (c.pos t b)) H
theorem ok_Course_at (T : Txt K mg) : ∃ fd, FnOk P w K mg base CX0 2 (He.fAd K ("Course", some "at")) fd ["self", "top", "bottom"] (spAt K) ∧ FunD K "at" "Course.at" (defArgs s_Course_at) (defBody s_Course_at) (defScope s_Course_at) [V.int 1] [] (He.fAd K ("Course", some "at")) fd := by
  obtain ⟨fd, F⟩ := T.c.def_ 2 (d := d_Course_at) rfl
  obtain ⟨fd_stand, G_stand, F_stand⟩ := ok_stand (P := P) (w := w) (base := base) T
  have kp_stand := F_stand.kp
  obtain ⟨d0_stand, v0_stand, b0_stand⟩ : ∃ ds, Vals ([V.int 1].drop 1) ds ∧ Binds K fd_stand ["start", "end", "length", "top", "bottom"] ds := F_stand.binds1 5 1 (by decide) rfl (fun _ _ _ _ _ _ _ us its h1 h2 => match us, its, h1, h2 with | [_, _, _, _, _], [_], _, _ => ⟨_, rfl, rfl⟩)
  refine ⟨fd, F.ok sc_Course_at (by walk_at "g94len") (fun cdv A outer st H vs Q E hr h => ?_), F⟩
  · obtain ⟨p, c, t, b, rfl, hc, hg, b0, b1, k⟩ := h
    obtain ⟨dx, l, ts, h1, h2, h3⟩ := hc.ob
    refine ⟨_, PSs.nox (pss_cons (ps_for PassesOwn.never rfl (pi_reversed (by rfl) (free_reversed T) (pa_cons (pe_fld (pv 0) rfl) pa_nil)) (pg_tup rfl (pgs_cons (pg_name (i := 3) sc_Course_at.nd rfl (Or.inl rfl)) (pgs_cons (pg_name (i := 4) sc_Course_at.nd rfl (Or.inl rfl)) (pgs_cons (pg_name (i := 5) sc_Course_at.nd rfl (Or.inl rfl)) (pgs_cons (pg_name (i := 6) sc_Course_at.nd rfl (Or.inl rfl)) pgs_nil))))) (pss_one (ps_if (pt_cmpR op_le (pe_op op_mul (pv 3) (pv 2)) (pv 1) (nomark _)) (pss_one (ps_ret (pe_call G_stand (hr.mono (by decide)) rfl (glo_stand T) kp_stand b0_stand v0_stand pass0 (pa_cons (pv 4) (pa_cons (pv 5) (pa_cons (pv 6) (pa_cons (pe_op op_sub (pv 1) (pe_op op_mul (pv 3) (pv 2))) (pa_cons (pv 2) pa_nil)))))))) pss_nil)))
        (pss_one (ps_ret (pe_fld (pv 0) rfl)))), ?_⟩
    refine ⟨_, rfl, p, cC K, dx, _, _, rfl, h1, cls_Course T, na_Course_fades T, cf_fades _ _, l, ts.map V.ref, rfl, SqL.of h2, ?_⟩
    refine RT.for_Itv (K := K) (a := l) (xs := ts.map V.ref) (fun i σ' H' => ∃ v3 v4 v5 v6, σ' = [some (.ref p), some (.int t), some (.int b), v3, v4, v5, v6] ∧ H' = H ∧ c.pos t b = look c.first t b (c.fades.reverse.drop i))
      ⟨_, _, _, _, rfl, rfl, rfl⟩ (fun i σ' H' ⟨_, _, _, _, _, e, _⟩ => by rw [e]; exact SqL.of h2) ?_ ?_
    · rintro i x σ' H' hi hx ⟨v3, v4, v5, v6, rfl, rfl, hl⟩
      rw [List.length_map] at hi hx
      obtain ⟨u, hu, rfl⟩ : ∃ u, ts[ts.length - 1 - i]? = some u ∧ x = V.ref u := by
        rw [List.getElem?_map] at hx
        cases e : ts[ts.length - 1 - i]? with
        | none =>
          rw [e] at hx
          cases hx
        | some u =>
          rw [e] at hx
          exact ⟨u, rfl, (Option.some.inj hx).symm⟩
      have hlen := h3.1
      have hj : c.fades.length - 1 - i < c.fades.length := by omega
      have hf : c.fades[ts.length - 1 - i]? = some c.fades[c.fades.length - 1 - i] := by
        rw [hlen]
        exact List.getElem?_eq_getElem hj
      have ht := h3.2 _ u _ hu hf
      have hgf := hg.fs _ (List.getElem_mem hj)
      have hir : i < c.fades.reverse.length := by
        rw [List.length_reverse]
        omega
      have hd : c.fades.reverse.drop i = c.fades[c.fades.length - 1 - i] :: c.fades.reverse.drop (i + 1) := by
        rw [List.drop_eq_getElem_cons hir, List.getElem_reverse]
      rw [hd] at hl
      generalize c.fades[c.fades.length - 1 - i] = f at ht hgf hl
      obtain ⟨⟨s0, s1⟩, ⟨e0, e1⟩, ⟨l0, l1⟩⟩ := hgf
      refine ⟨u, _, rfl, SqT.of ht, rfl, ?_⟩
      walk_at "rds"
      walk_at "ri" <;> intro c1
      · have q : c.pos t b = stand f.start f.fin f.len (t - f.out * b) b := by
          rw [hl, look_yes c1]
        rw [q] at k
        have hfit : Fits f.start f.fin f.len b := ⟨s0, s1, e0, e1, l0, l1, b0, b1⟩
        walk_at "rds"
        exact k
      · refine ⟨_, _, _, _, rfl, rfl, ?_⟩
        rw [hl, look_no c1]
    · rintro σ' H' ⟨v3, v4, v5, v6, rfl, rfl, hl⟩
      have q : c.pos t b = c.first := by
        rw [hl]
        have e : c.fades.reverse.drop (ts.map V.ref).length = [] := by
          rw [List.length_map, h3.1]
          exact List.drop_eq_nil_of_le (by rw [List.length_reverse]; exact Nat.le_refl _)
        rw [e]
        rfl
      rw [q] at k
      exact ⟨_, rfl, p, cC K, dx, _, _, rfl, h1, cls_Course T, na_Course_first T, cf_first _ _, k⟩
def spAim (K : PySem.W.Frag) : Sp := fun vs H Q _ => ∃ (p : Addr) (c : Crs), vs = [.ref p] ∧ CrsAt K H p c ∧ ∀ H', Same H H' → Q (.int c.aim) H'
theorem fades_last {ts : List Addr} {fs : List Fade} {H : Hp} (h : TupsAt H ts fs) (hn : ¬ fs = []) : ∃ (t : Addr) (f : Fade), atI (ts.map V.ref) (-1) = some (V.ref t) ∧ fs.getLast? = some f ∧ H t = some (.tup f.v) := by
  have hl : 0 < fs.length := List.length_pos_iff.mpr hn
  have e := h.1
  have hj : ts.length - 1 < ts.length := by omega
  have hk : fs.length - 1 < fs.length := by omega
  refine ⟨ts[ts.length - 1], fs[fs.length - 1], ?_, ?_, ?_⟩
  · have hx : (ts.map V.ref)[ts.length - 1]? = some (V.ref ts[ts.length - 1]) := by
      rw [List.getElem?_map, List.getElem?_eq_getElem hj]
      rfl
    unfold atI ixN
    rw [if_neg (by decide), if_pos (by rw [List.length_map]; omega), Option.bind_some, List.length_map]
    have e2 : ((-1 : Int) + (ts.length : Int)).toNat = ts.length - 1 := by omega
    rw [e2]
    exact hx
  · rw [List.getLast?_eq_getElem?]
    exact List.getElem?_eq_getElem hk
  · exact h.2 (ts.length - 1) _ _ (List.getElem?_eq_getElem hj) (by rw [e]; exact List.getElem?_eq_getElem hk)
theorem ok_Course_aim (T : Txt K mg) : ∃ fd, FnOk P w K mg base CX0 1 (He.fAd K ("Course", some "aim")) fd ["self"] (spAim K) ∧ FunD K "aim" "Course.aim" (defArgs s_Course_aim) (defBody s_Course_aim) (defScope s_Course_aim) [] [] (He.fAd K ("Course", some "aim")) fd := by
  obtain ⟨fd, F⟩ := T.c.def_ 4 (d := d_Course_aim) rfl
  refine ⟨fd, F.ok sc_Course_aim (by walk_at "g94len") (fun cdv A outer st H vs Q E hr h => ?_), F⟩
  · obtain ⟨p, c, rfl, hc, k⟩ := h
    obtain ⟨dx, l, ts, h1, h2, h3⟩ := hc.ob
    refine ⟨_, PSs.nox (pss_cons (ps_if (pt_cmpR (op_eqD hr.units) (pe_fld (pv 0) rfl) (pe_lst pa_nil) (nomark _)) (pss_one (ps_ret (pe_fld (pv 0) rfl))) pss_nil)
        (pss_one (ps_ret (pe_ix ix_tup (pe_ix ix_list (pe_fld (pv 0) rfl) pe_negC (fun _ _ => rfl)) pe_int (fun _ _ => rfl))))), ?_⟩
    refine ⟨_, rfl, p, cC K, dx, _, _, rfl, h1, cls_Course T, na_Course_fades T, cf_fades _ _, small_size (Nat.le_of_ble_eq_true rfl), fun e he => ?_⟩
    have s1 := (Same.refl H).new (o := HO.lst []) he
    have h3' : TupsAt (upd H e (HO.lst [])) ts c.fades := h3.mono fun t xs q => s1 _ _ q
    refine ⟨_, _, .lst (SqL.of (s1 _ _ h2)) (dp_fades h3'), .lst (SqL.of upd_same) .nil, fpy_shaped _, by decide, ?_⟩
    rw [eqv_nil]
    walk_at "rds"
    walk_at "ri" <;> intro c1
    · refine ⟨_, rfl, p, cC K, dx, _, _, rfl, s1 _ _ h1, cls_Course T, na_Course_first T, cf_first _ _, ?_⟩
      have q := k _ s1
      unfold Crs.aim at q
      rw [c1] at q
      exact q
    · obtain ⟨t, f, e1, e2, e3⟩ := fades_last h3 c1
      refine ⟨_, rfl, p, cC K, dx, _, _, rfl, s1 _ _ h1, cls_Course T, na_Course_fades T, cf_fades _ _, l, _, _, _, rfl, rfl, SqL.of (s1 _ _ h2), e1, t, _, _, _, rfl, rfl, SqT.of (s1 _ _ e3), rfl, ?_⟩
      have q := k _ s1
      unfold Crs.aim at q
      rw [e2] at q
      exact q
def spStill (K : PySem.W.Frag) : Sp := fun vs H Q _ => ∃ (p : Addr) (c : Crs), vs = [.ref p] ∧ CrsAt K H p c ∧ ∀ H', Same H H' → Q (.int c.still) H'
theorem ok_Course_still (T : Txt K mg) : ∃ fd, FnOk P w K mg base CX0 1 (He.fAd K ("Course", some "still")) fd ["self"] (spStill K) ∧ FunD K "still" "Course.still" (defArgs s_Course_still) (defBody s_Course_still) (defScope s_Course_still) [] [] (He.fAd K ("Course", some "still")) fd := by
  obtain ⟨fd, F⟩ := T.c.def_ 5 (d := d_Course_still) rfl
  refine ⟨fd, F.ok sc_Course_still (by walk_at "g94len") (fun cdv A outer st H vs Q E hr h => ?_), F⟩
  · obtain ⟨p, c, rfl, hc, k⟩ := h
    obtain ⟨dx, l, ts, h1, h2, h3⟩ := hc.ob
    refine ⟨_, PSs.nox (pss_cons (ps_if (pt_cmpR (op_eqD hr.units) (pe_fld (pv 0) rfl) (pe_lst pa_nil) (nomark _)) (pss_one (ps_ret pe_int)) pss_nil)
        (pss_one (ps_ret (pe_op op_add (pe_ix ix_tup (pe_ix ix_list (pe_fld (pv 0) rfl) pe_negC (fun _ _ => rfl)) pe_int (fun _ _ => rfl)) (pe_ix ix_tup (pe_ix ix_list (pe_fld (pv 0) rfl) pe_negC (fun _ _ => rfl)) pe_int (fun _ _ => rfl)))))), ?_⟩
    refine ⟨_, rfl, p, cC K, dx, _, _, rfl, h1, cls_Course T, na_Course_fades T, cf_fades _ _, small_size (Nat.le_of_ble_eq_true rfl), fun e he => ?_⟩
    have s1 := (Same.refl H).new (o := HO.lst []) he
    have h3' : TupsAt (upd H e (HO.lst [])) ts c.fades := h3.mono fun t xs q => s1 _ _ q
    refine ⟨_, _, .lst (SqL.of (s1 _ _ h2)) (dp_fades h3'), .lst (SqL.of upd_same) .nil, fpy_shaped _, by decide, ?_⟩
    rw [eqv_nil]
    walk_at "rds"
    walk_at "ri" <;> intro c1
    · have q := k _ s1
      unfold Crs.still at q
      rw [c1] at q
      exact q
    · obtain ⟨t, f, e1, e2, e3⟩ := fades_last h3 c1
      refine ⟨_, rfl, p, cC K, dx, _, _, rfl, s1 _ _ h1, cls_Course T, na_Course_fades T, cf_fades _ _, l, _, _, _, rfl, rfl, SqL.of (s1 _ _ h2), e1, t, _, _, _, rfl, rfl, SqT.of (s1 _ _ e3), rfl, ?_⟩
      refine ⟨_, rfl, p, cC K, dx, _, _, rfl, s1 _ _ h1, cls_Course T, na_Course_fades T, cf_fades _ _, l, _, _, _, rfl, rfl, SqL.of (s1 _ _ h2), e1, t, _, _, _, rfl, rfl, SqT.of (s1 _ _ e3), rfl, ?_⟩
      have q := k _ s1
      unfold Crs.still at q
      rw [e2] at q
      exact ⟨_, _, rfl, rfl, q⟩
theorem ref_at {ts : List Addr} {i : Nat} {y : V} (h : (ts.map V.ref)[i]? = some y) : ∃ u, y = V.ref u ∧ ts[i]? = some u ∧ i < ts.length := by
  rw [List.getElem?_map] at h
  cases e : ts[i]? with
  | none =>
    rw [e] at h
    cases h
  | some u =>
    rw [e] at h
    exact ⟨u, (Option.some.inj h).symm, rfl, (List.getElem?_eq_some_iff.mp e).1⟩
theorem take_snoc {α : Type} {l : List α} {i : Nat} {x : α} (h : l[i]? = some x) : l.take (i + 1) = l.take i ++ [x] := by
  rw [List.take_add_one, h]
  rfl
theorem kept_yes {o : Int} {fs : List Fade} {f : Fade} (h : f.out < o) : kept o (fs ++ [f]) = kept o fs ++ [f] := by
  unfold kept
  rw [List.filter_append, List.filter_cons, if_pos (by simpa using h)]
  rfl
theorem kept_no {o : Int} {fs : List Fade} {f : Fade} (h : ¬ f.out < o) : kept o (fs ++ [f]) = kept o fs := by
  unfold kept
  rw [List.filter_append, List.filter_cons, if_neg (by simpa using h)]
  exact List.append_nil _
def spTell (K : PySem.W.Frag) : Sp := fun vs H Q _ => ∃ (p : Addr) (c : Crs) (now wait rise fall fin : Int), vs = [.ref p, .int now, .int wait, .int rise, .int fall, .int fin] ∧ CrsAt K H p c ∧ c.Good ∧ c.fades.length ≤ 1000 ∧
  ∀ H', CrsAt K H' p (c.tell now wait rise fall fin) → (∀ b o, H b = some o → b ≠ p → H' b = some o) → Q .non H'
theorem ok_Course_tell (T : Txt K mg) : ∃ fd, FnOk P w K mg base CX0 3 (He.fAd K ("Course", some "tell")) fd ["self", "now", "wait", "rise", "fall", "end"] (spTell K) ∧ FunD K "tell" "Course.tell" (defArgs s_Course_tell) (defBody s_Course_tell) (defScope s_Course_tell) [] [] (He.fAd K ("Course", some "tell")) fd := by
  obtain ⟨fd, F⟩ := T.c.def_ 3 (d := d_Course_tell) rfl
  obtain ⟨fd_Course_at, G_Course_at, F_Course_at⟩ := ok_Course_at (P := P) (w := w) (base := base) T
  have kp_Course_at := F_Course_at.kp
  obtain ⟨d1_Course_at, v1_Course_at, b1_Course_at⟩ : ∃ ds, Vals ([V.int 1].drop 0) ds ∧ Binds K fd_Course_at ["self", "top", "bottom"] ds := F_Course_at.binds1 2 0 (by decide) rfl (fun _ _ _ _ _ _ _ us its h1 h2 => match us, its, h1, h2 with | [_, _], [_], _, _ => ⟨_, rfl, rfl⟩)
  refine ⟨fd, F.ok sc_Course_tell (by walk_at "g94len") (fun cdv A outer st H vs Q E hr h => ?_), F⟩
  · obtain ⟨p, c, now, wait, rise, fall, fin, rfl, hc, hg, hlen, k⟩ := h
    obtain ⟨dx, l, ts, h1, h2, h3⟩ := hc.ob
    refine ⟨_, PSs.nox (pss_cons (ps_set (i := 6) sc_Course_tell.nd rfl (Or.inr rfl) (pe_op op_add (pv 1) (pv 2)))
        (pss_cons (ps_fld (pv 0) (pe_lc (own := [("fade", 9)]) (g := gName 9) rfl sc_Course_tell.nd (pi_list (pe_fld (pv 0) rfl)) (blkOk_by (own := [("fade", 9)]) (N := ["self", "now", "wait", "rise", "fall", "end", "out", "start", "length", "fade"]) (sc := defScope s_Course_tell) (by decide +kernel)) (fun _ _ _ _ _ => pg_name (i := 9) sc_Course_tell.nd rfl (Or.inl rfl)) (fun _ _ _ _ _ => (pts_one (pt_cmpR op_lt (pe_ix (show IxR _ (rIxT K) from ix_tup) (pv 9) pe_int (fun _ _ => rfl)) (pv 6) (nomark _)))) (fun _ _ _ _ _ => (pv 9))) rfl)
        (pss_cons (ps_set (i := 7) sc_Course_tell.nd rfl (Or.inl rfl) (pe_meth (pv 0) (cls_Course T) (m_Course_at T) G_Course_at (hr.mono (by decide)) b1_Course_at v1_Course_at pass0 (pa_cons (pv 6) pa_nil)))
        (pss_cons (ps_set (i := 8) sc_Course_tell.nd rfl (Or.inl rfl) (pv 4))
        (C8.pss_cut (ps_if (pt_cmpR op_gt (pv 5) (pv 7) (nomark _)) (pss_one (ps_set (i := 8) sc_Course_tell.nd rfl (Or.inl rfl) (pv 3))) pss_nil)
        (pss_one (ps_expr (pe_bm PySem.F.plainAttrs_list PySem.F.slot_list_append PySem.F.type_list_append mt_append (pe_fld (pv 0) rfl) (pa_cons (pe_tup (pa_cons (pv 6) (pa_cons (pv 7) (pa_cons (pv 5) (pa_cons (pv 8) pa_nil))))) pa_nil))))))))), ?_⟩
    walk_at "rds"
    refine ⟨p, cC K, dx, _, _, rfl, h1, cls_Course T, na_Course_fades T, cf_fades _ _, l, rfl, ⟨_, SqL.of h2⟩, fun D hD => ?_⟩
    have npD : p ≠ D := ne_of_none h1 hD
    refine lc_list (K := K) (a := l) (xs := ts.map V.ref) (fun i H' => ∃ acc : List Addr, H' D = some (.lst (acc.map V.ref)) ∧ acc.length ≤ i ∧ TupsAt H acc (kept (now + wait) (c.fades.take i)) ∧ Same H H')
      ⟨[], upd_same, Nat.le_refl _, ⟨rfl, fun i t f a => by cases a⟩, (Same.refl H).new hD⟩ (fun i H' _ ⟨_, _, _, _, s⟩ => s.seq (SqL.of h2)) ?_ ?_
    · rintro i y H' hi ⟨acc, hacc, hal, hta, s⟩
      obtain ⟨u, rfl, hu, hlt⟩ := ref_at hi
      have hlt2 : i < c.fades.length := by
        rw [← h3.1]
        exact hlt
      have hf : c.fades[i]? = some c.fades[i] := List.getElem?_eq_getElem hlt2
      have ht := h3.2 _ u _ hu hf
      rw [take_snoc hf]
      generalize c.fades[i] = f at ht
      refine ⟨rfl, ?_⟩
      refine ⟨_, rfl, u, _, _, _, rfl, rfl, SqT.of (s _ _ ht), rfl, ?_⟩
      walk_at "rds"
      walk_at "ri" <;> intro c1
      · walk_at "rds"
        refine ⟨acc.map V.ref, hacc, ?_, acc ++ [u], ?_, ?_, ?_, s.mut hD⟩
        · rw [List.length_map]
          have := h3.1
          exact Nat.lt_of_le_of_lt (show acc.length ≤ 1000 by omega) (by decide)
        · rw [upd_same, List.map_append]
          rfl
        · rw [List.length_append]
          show acc.length + 1 ≤ i + 1
          omega
        · rw [kept_yes c1]
          exact hta.snoc ht
      · rw [kept_no c1]
        exact ⟨acc, hacc, by omega, hta, s⟩
    rintro H1 ⟨acc, hacc, hal, hta, s1⟩
    rw [List.length_map, h3.1, List.take_length] at hta
    rw [List.length_map, h3.1] at hal
    refine ⟨_, rfl, p, cC K, dx, _, rfl, s1 _ _ h1, cls_Course T, na_Course_fades T, (by show 2 < 1000; decide), ?_⟩
    rw [cf_put]
    have hpD : D ≠ p := fun e => npD e.symm
    have hT : ∀ t xs, H t = some (.tup xs) → upd H1 p (.ins (cC K) dx (cflds c.first D)) t = some (.tup xs) := fun t xs e => by
      rw [upd_ne (ne_of e h1 (by intro z; cases z))]
      exact s1 _ _ e
    have hc2 : CrsAt K (upd H1 p (.ins (cC K) dx (cflds c.first D))) p ⟨c.first, kept (now + wait) c.fades⟩ := ⟨dx, D, acc, upd_same, by rw [upd_ne hpD]; exact hacc, hta.mono hT⟩
    have hg2 : (Crs.mk c.first (kept (now + wait) c.fades)).Good := ⟨hg.f, kept_good hg.fs⟩
    refine ⟨_, rfl, p, dx, _, rfl, upd_same, cf_no _ _ (by decide +kernel) (by decide +kernel), _, rfl, p, _, now + wait, 1, rfl, hc2, hg2, by decide, by decide, ?_⟩
    walk_at "nf"
    have q : Crs.pos ⟨c.first, kept (now + wait) c.fades⟩ (now + wait) 1 = look c.first (now + wait) 1 (kept (now + wait) c.fades).reverse := rfl
    rw [q]
    have kk : c.tell now wait rise fall fin = ⟨c.first, kept (now + wait) c.fades ++ [⟨now + wait, look c.first (now + wait) 1 (kept (now + wait) c.fades).reverse, fin, if look c.first (now + wait) 1 (kept (now + wait) c.fades).reverse < fin then rise else fall⟩]⟩ := rfl
    rw [kk] at k
    generalize look c.first (now + wait) 1 (kept (now + wait) c.fades).reverse = s at k ⊢
    walk_at "rds"
    refine ⟨fun σ' H' => ∃ y : Int, σ' = [some (.ref p), some (.int now), some (.int wait), some (.int rise), some (.int fall), some (.int fin), some (.int (now + wait)), some (.int s), some (.int y), none] ∧ y = (if s < fin then rise else fall) ∧ H' = upd H1 p (.ins (cC K) dx (cflds c.first D)), ?_, ?_⟩
    · walk_at "rds"
      walk_at "ri" <;> intro c1
      · rw [if_pos c1]
        walk_at "rds"
        rfl
      · rw [if_neg c1]
        walk_at "rds"
        rfl
    rintro σ' H' ⟨y, rfl, hy, rfl⟩
    refine ⟨_, rfl, p, cC K, dx, _, _, rfl, upd_same, cls_Course T, na_Course_fades T, cf_fades _ _, Or.inl ⟨rfl, _, SqL.of (by rw [upd_ne hpD]; exact hacc)⟩, ?_⟩
    walk_at "rds"
    intro t ht
    have ht1 : H1 t = none := by
      by_cases e : t = p
      · rw [e, upd_same] at ht
        cases ht
      · rw [upd_ne e] at ht
        exact ht
    have ntp : p ≠ t := ne_of_none (s1 _ _ h1) ht1
    have ntD : D ≠ t := ne_of_none hacc ht1
    refine ⟨D, acc.map V.ref, .ref t, rfl, rfl, ?_, ?_, ?_⟩
    · rw [upd_ne ntD, upd_ne hpD]
      exact hacc
    · rw [List.length_map]
      exact Nat.lt_of_le_of_lt (show acc.length ≤ 1000 by omega) (by decide)
    rw [← hy] at k
    refine k _ ⟨dx, D, acc ++ [t], ?_, ?_, ?_⟩ ?_
    · rw [upd_ne npD, upd_ne ntp, upd_same]
    · rw [upd_same, List.map_append]
      rfl
    · refine TupsAt.snoc ?_ ?_
      · refine hta.mono fun u xs e => ?_
        rw [upd_ne (ne_of_none e hD), upd_ne (ne_of_none (s1 _ _ e) ht1)]
        exact hT u xs e
      · rw [upd_ne ntD.symm, upd_same]
        rfl
    · intro b o e hb
      rw [upd_ne (ne_of_none e hD), upd_ne (ne_of_none (s1 _ _ e) ht1), upd_ne hb]
      exact s1 _ _ e
/-! ### the law's small helpers -/
def spCell (K : PySem.W.Frag) : Sp := fun vs H Q _ => ∃ (a : Addr) (k : Int), vs = [.ref a, .int k] ∧ (∃ ns : List Int, SqL K H a (ns.map V.int)) ∧ 0 ≤ k ∧ ∀ r : Int, Q (.int r) H
theorem ok_l_cell_at (T : Txt K mg) : ∃ fd, FnOk P w K mg base CX0 1 (He.fAd K ("_law_cell_at", none)) fd ["_law_script", "_law_k"] (spCell K) ∧ FunD K "_law_cell_at" "_law_cell_at" (defArgs s_l_cell_at) (defBody s_l_cell_at) (defScope s_l_cell_at) [] [] (He.fAd K ("_law_cell_at", none)) fd := by
  obtain ⟨fd, F⟩ := T.c.def_ 6 (d := d_l_cell_at) rfl
  refine ⟨fd, F.ok sc_l_cell_at (by walk_at "g94len") (fun cdv A outer st H vs Q E hr h => ?_), F⟩
  · obtain ⟨a, i, rfl, ⟨ns, hS⟩, i0, k⟩ := h
    refine ⟨_, PSs.nox (pss_cons (ps_if (pt_cmpR op_lt (pv 1) (pe_callB call_len_seq (by rfl) (free_len T) (by decide +kernel) (pa_cons (pv 0) pa_nil)) (nomark _)) (pss_one (ps_ret (pe_ix ix_list (pv 0) (pv 1) (fun _ _ => rfl)))) pss_nil)
        (pss_one (ps_ret pe_int))), ?_⟩
    walk_at "rds"
    refine ⟨_, _, rfl, .inl hS, ?_⟩
    walk_at "rds"
    walk_at "ri" <;> intro c1
    · obtain ⟨v, hv, hv2⟩ := atI_lt i0 c1
      obtain ⟨z, rfl, _, _⟩ := int_at hv2
      walk_at "rds"
      exact ⟨_, _, _, _, rfl, rfl, hS, hv, k _⟩
    · walk_at "rds"
      exact k _

def spWhole : Sp := fun vs H Q _ => ∃ n : Int, vs = [.int n] ∧ Q (.bl true) H
theorem ok_l_whole (T : Txt K mg) : ∃ fd, FnOk P w K mg base CX0 1 (He.fAd K ("_law_whole", none)) fd ["_law_found"] spWhole ∧ FunD K "_law_whole" "_law_whole" (defArgs s_l_whole) (defBody s_l_whole) (defScope s_l_whole) [] [] (He.fAd K ("_law_whole", none)) fd := by
  obtain ⟨fd, F⟩ := T.c.def_ 7 (d := d_l_whole) rfl
  refine ⟨fd, F.ok sc_l_whole (by walk_at "g94len") (fun cdv A outer st H vs Q E hr h => ?_), F⟩
  · obtain ⟨n, rfl, k⟩ := h
    refine ⟨_, PSs.nox (pss_one (ps_ret (pe_and (pe_callB call_isi (by rfl) (free_isinstance T) (by decide +kernel) (pa_cons (pv 0) (pa_cons (pe_bltn (v := .ty "int") (by rfl) (free_int T) (by decide +kernel) rfl) pa_nil))) (pe_one (pe_not (pe_callB call_isi (by rfl) (free_isinstance T) (by decide +kernel) (pa_cons (pv 0) (pa_cons (pe_bltn (v := .ty "bool") (by rfl) (free_bool T) (by decide +kernel) rfl) pa_nil)))))))), ?_⟩
    walk_at "rds"
    exact k

def spGone : Sp := fun vs H Q _ => ∃ s e l t b : Int, vs = [.int s, .int e, .int l, .int t, .int b] ∧ Fits s e l b ∧ Q (.int (stand s e l t b)) H
theorem ok_l_gone (T : Txt K mg) : ∃ fd, FnOk P w K mg base CX0 1 (He.fAd K ("_law_gone", none)) fd ["_law_start_here", "_law_end", "_law_length_here", "_law_top", "_law_bottom"] spGone ∧ FunD K "_law_gone" "_law_gone" (defArgs s_l_gone) (defBody s_l_gone) (defScope s_l_gone) [] [] (He.fAd K ("_law_gone", none)) fd := by
  obtain ⟨fd, F⟩ := T.c.def_ 8 (d := d_l_gone) rfl
  refine ⟨fd, F.ok sc_l_gone (by walk_at "g94len") (fun cdv A outer st H vs Q E hr h => ?_), F⟩
  · obtain ⟨s, e, l, t, b, rfl, hf, k⟩ := h
    have hf' := hf
    obtain ⟨s0, s1, e0, e1, l0, l1, b0, b1⟩ := hf'
    refine ⟨_, PSs.nox (pss_cons (ps_if (pt_cmpR op_lt (pv 3) pe_int (nomark _)) (pss_one (ps_ret (pv 0))) pss_nil)
        (pss_cons (ps_if (pt_cmpR op_ge (pv 3) (pe_op op_mul (pv 2) (pv 4)) (nomark _)) (pss_one (ps_ret (pv 1))) pss_nil)
        (pss_cons (ps_if (pt_cmpR op_lt (pv 1) (pv 0) (nomark _)) (pss_one (ps_ret (pe_op op_sub (pv 0) (pe_op op_fdivW (pe_op op_mul (pe_op op_sub (pv 0) (pv 1)) (pv 3)) (pe_op op_mul (pv 4) (pv 2)))))) pss_nil)
        (pss_one (ps_ret (pe_op op_add (pv 0) (pe_op op_fdivW (pe_op op_mul (pe_op op_sub (pv 1) (pv 0)) (pv 3)) (pe_op op_mul (pv 4) (pv 2))))))))), ?_⟩
    unfold stand at k
    walk_at "rds"
    walk_at "ri" <;> intro c1
    · rw [if_pos c1] at k
      walk_at "rds"
      exact k
    rw [if_neg c1] at k
    walk_at "rds"
    walk_at "ri" <;> intro c2
    · rw [if_pos (by rw [Int.mul_comm]; exact c2)] at k
      walk_at "rds"
      exact k
    have c2' : ¬ b * l ≤ t := by rw [Int.mul_comm]; exact c2
    rw [if_neg c2'] at k
    have hp := bl_pos hf c1 c2'
    have hw := fun i : Int => wide_div (i := i) hp (bl_bound hf) (by decide) (by decide)
    walk_at "rds"
    walk_at "ri" <;> intro c3
    · rw [if_pos c3] at k
      have q : way s e = s - e := by
        unfold way
        rw [if_pos (by omega)]
        omega
      rw [q] at k
      walk_at "rds"
      exact ⟨hw _, _, _, rfl, rfl, k⟩
    · rw [if_neg c3] at k
      have q : way s e = e - s := by
        unfold way
        rw [if_neg (by omega)]
      rw [q] at k
      walk_at "rds"
      exact ⟨hw _, _, _, rfl, rfl, k⟩

/-! ### a fade as the law has it: five numbers -/
structure F5 where
  now : Int
  wait : Int
  rise : Int
  fall : Int
  fin : Int
def F5.l (f : F5) : List Int := [f.now, f.wait, f.rise, f.fall, f.fin]
def F5.v (f : F5) : List V := f.l.map V.int
structure F5.Good (f : F5) : Prop where
  n : 0 ≤ f.now ∧ f.now ≤ 4000000000
  w : 0 ≤ f.wait ∧ f.wait ≤ 1000000000
  r : 0 ≤ f.rise ∧ f.rise ≤ 1000000000
  a : 0 ≤ f.fall ∧ f.fall ≤ 1000000000
  e : 0 ≤ f.fin ∧ f.fin ≤ 1000000000
def F5.out (f : F5) : Int := f.now + f.wait
def len5 (f : F5) (s : Int) : Int := if s < f.fin then f.rise else f.fall
theorem len5_in {f : F5} (h : f.Good) (s : Int) : 0 ≤ len5 f s ∧ len5 f s ≤ 1000000000 := by
  unfold len5
  split
  · exact h.r
  · exact h.a
def start5 (z : Int) (f g : F5) : Int := if f.out < g.out then stand z f.fin (len5 f z) (g.out - f.out) 1 else z
def due5 (z : Int) (f g : F5) (t b : Int) : Int :=
  if g.out * b ≤ t then stand (start5 z f g) g.fin (len5 g (start5 z f g)) (t - g.out * b) b
  else if f.out < g.out then stand z f.fin (len5 f z) (t - f.out * b) b else z
def spFade (K : PySem.W.Frag) : Sp := fun vs H Q _ => ∃ (a : Addr) (k m : Int), vs = [.ref a, .int k, .int m] ∧ (∃ ns : List Int, SqL K H a (ns.map V.int)) ∧ 0 ≤ k ∧ 0 < m ∧ m ≤ 1000000001 ∧
  ∀ (f : F5) (p : Addr) (H' : Hp), f.Good → f.now ≤ 1000000000 → Same H H' → H p = none → H' p = some (.lst f.v) → Q (.ref p) H'
theorem ok_l_fade (T : Txt K mg) : ∃ fd, FnOk P w K mg base CX0 2 (He.fAd K ("_law_fade", none)) fd ["_law_script", "_law_k", "_law_most"] (spFade K) ∧ FunD K "_law_fade" "_law_fade" (defArgs s_l_fade) (defBody s_l_fade) (defScope s_l_fade) [] [] (He.fAd K ("_law_fade", none)) fd := by
  obtain ⟨fd, F⟩ := T.c.def_ 10 (d := d_l_fade) rfl
  obtain ⟨fd_l_cell_at, G_l_cell_at, F_l_cell_at⟩ := ok_l_cell_at (P := P) (w := w) (base := base) T
  have kp_l_cell_at := F_l_cell_at.kp
  have b_l_cell_at : Binds K fd_l_cell_at ["_law_script", "_law_k"] [] := FunD.bindsN F_l_cell_at (fun _ _ _ _ _ _ us hl => match us, hl with | [_, _], _ => rfl)
  refine ⟨fd, F.ok sc_l_fade (by walk_at "g94len") (fun cdv A outer st H vs Q E hr h => ?_), F⟩
  · obtain ⟨a, i, m, rfl, ⟨ns, hS⟩, i0, m0, m1, k⟩ := h
    refine ⟨_, PSs.nox (pss_cons (ps_set (i := 3) sc_l_fade.nd rfl (Or.inl rfl) (pe_op op_mod (pe_call G_l_cell_at (hr.mono (by decide)) rfl (glo__law_cell_at T) kp_l_cell_at b_l_cell_at .nil pass0 (pa_cons (pv 0) (pa_cons (pv 1) pa_nil))) (pv 2)))
        (pss_cons (ps_setLc (i := 4) (own := [("_law_j", 5)]) (g := gName 5) rfl sc_l_fade.nd rfl rfl (sw_true rfl rfl rfl (by decide +kernel)) (pi_range1 rfl (free_range T) (pa_cons pe_int pa_nil)) (blkOk_by (own := [("_law_j", 5)]) (N := ["_law_script", "_law_k", "_law_most", "_law_now", "_law_times", "_law_j"]) (sc := defScope s_l_fade) (by decide +kernel)) (fun _ _ _ _ _ => pg_name (i := 5) sc_l_fade.nd rfl (Or.inl rfl)) (fun _ _ _ _ _ => pts_nil) (fun _ _ _ _ _ => (pe_op op_mod (pe_call G_l_cell_at (hr.mono (by decide)) rfl (glo__law_cell_at T) kp_l_cell_at b_l_cell_at .nil pass0 (pa_cons (pv 0) (pa_cons (pe_op op_add (pe_op op_add (pv 1) pe_int) (pv 5)) pa_nil))) (pv 2))))
        (pss_one (ps_ret (pe_op op_cat (pe_op op_cat (pe_lst (pa_cons (pv 3) pa_nil)) (pv 4)) (pe_lst (pa_cons (pe_op op_mod (pe_call G_l_cell_at (hr.mono (by decide)) rfl (glo__law_cell_at T) kp_l_cell_at b_l_cell_at .nil pass0 (pa_cons (pv 0) (pa_cons (pe_op op_add (pv 1) pe_int) pa_nil))) (pe_op op_add (pe_powC (v := 1000000000) (by rfl) (by decide +kernel)) pe_int)) pa_nil))))))), ?_⟩
    walk_at "rz"
    rename_i n0
    intro D hD
    refine lc_range (lo := 0) (n := 3) (fun i H' => ∃ acc : List Int, H' D = some (.lst (acc.map V.int)) ∧ acc.length = i ∧ (∀ y ∈ acc, 0 ≤ y ∧ y ≤ 1000000000) ∧ Same H H') ⟨[], upd_same, rfl, fun y hy => (by cases hy), (Same.refl H).new hD⟩ ?_ ?_
    · rintro j H' hi ⟨acc, hacc, hal, hall, s⟩
      have hS' := s.seq hS
      refine ⟨rfl, ?_⟩
      walk_at "rz"
      rename_i y0
      refine ⟨acc.map V.int, hacc, ?_, acc ++ [y0 % m], ?_, ?_, ?_, s.mut hD⟩
      · rw [List.length_map]
        exact Nat.lt_of_le_of_lt (show acc.length ≤ 1000 by omega) (by decide)
      · rw [upd_same, List.map_append]
        rfl
      · rw [List.length_append]
        show acc.length + 1 = j + 1
        omega
      · intro y hy
        rcases List.mem_append.mp hy with hy | hy
        · exact hall y hy
        · have e := List.mem_singleton.mp hy
          rw [e]
          exact ⟨Int.emod_nonneg _ (by omega), by have := Int.emod_lt_of_pos y0 m0; omega⟩
    rintro H1 ⟨acc, hacc, hal, hall, s1⟩
    obtain ⟨t0, t1, t2, rfl⟩ : ∃ a b c, acc = [a, b, c] := match acc, hal with | [a, b, c], _ => ⟨a, b, c, rfl⟩
    have hS1 := s1.seq hS
    have hn : 0 ≤ n0 % m ∧ n0 % m ≤ 1000000000 := ⟨Int.emod_nonneg _ (by omega), by have := Int.emod_lt_of_pos n0 m0; omega⟩
    refine ⟨_, rfl, small_size (Nat.le_of_ble_eq_true rfl), fun p hp => ?_⟩
    have s2 := (Same.refl H1).new (o := HO.lst [V.int (n0 % m)]) hp
    refine ⟨_, rfl, p, D, _, _, rfl, rfl, upd_same, s2 _ _ hacc, small_size (Nat.le_of_ble_eq_true rfl), fun p2 hp2 => ?_⟩
    have s3 := s2.new (o := HO.lst ([V.int (n0 % m)] ++ List.map V.int [t0, t1, t2])) hp2
    have s4 := s1.trans s3
    have hS4 := s4.seq hS
    walk_at "rz"
    rename_i e0
    intro p3 hp3
    have s5 := s4.new (o := HO.lst [V.int (e0 % (1000000000 + 1))]) hp3
    refine ⟨p2, p3, [V.int (n0 % m)] ++ List.map V.int [t0, t1, t2], _, rfl, rfl, ?_, upd_same, small_size (Nat.le_of_ble_eq_true rfl), fun p4 hp4 => ?_⟩
    · rw [upd_ne (ne_of_none upd_same hp3), upd_same]
    · refine k ⟨n0 % m, t0, t1, t2, e0 % (1000000000 + 1)⟩ p4 _ ⟨⟨hn.1, Int.le_trans hn.2 (by decide)⟩, hall t0 (by simp), hall t1 (by simp), hall t2 (by simp), ⟨Int.emod_nonneg _ (by decide), by have := Int.emod_lt_of_pos e0 (show (0 : Int) < 1000000000 + 1 by decide); show e0 % (1000000000 + 1) ≤ 1000000000; omega⟩⟩ hn.2 (s5.new hp4) ?_ upd_same
      cases e : H p4 with
      | none => rfl
      | some o =>
        rw [s5 _ _ e] at hp4
        cases hp4
def spLen (K : PySem.W.Frag) : Sp := fun vs H Q _ => ∃ (a : Addr) (s : Int), vs = [.ref a, .int s] ∧ ∃ f : F5, SqL K H a f.v ∧ Q (.int (len5 f s)) H
theorem ok_l_length (T : Txt K mg) : ∃ fd, FnOk P w K mg base CX0 1 (He.fAd K ("_law_length", none)) fd ["_law_fade_here", "_law_start_here"] (spLen K) ∧ FunD K "_law_length" "_law_length" (defArgs s_l_length) (defBody s_l_length) (defScope s_l_length) [] [] (He.fAd K ("_law_length", none)) fd := by
  obtain ⟨fd, F⟩ := T.c.def_ 11 (d := d_l_length) rfl
  refine ⟨fd, F.ok sc_l_length (by walk_at "g94len") (fun cdv A outer st H vs Q E hr h => ?_), F⟩
  · obtain ⟨a, s, rfl, f, hS, k⟩ := h
    refine ⟨_, PSs.nox (pss_cons (ps_if (pt_cmpR op_gt (pe_ix ix_list (pv 0) pe_int (fun _ _ => rfl)) (pv 1) (nomark _)) (pss_one (ps_ret (pe_ix ix_list (pv 0) pe_int (fun _ _ => rfl)))) pss_nil)
        (pss_one (ps_ret (pe_ix ix_list (pv 0) pe_int (fun _ _ => rfl))))), ?_⟩
    refine ⟨_, rfl, _, _, _, _, rfl, rfl, hS, rfl, _, rfl, _, _, rfl, rfl, _, rfl, ?_⟩
    unfold len5 at k
    walk_at "ri" <;> intro c1
    · rw [if_pos c1] at k
      exact ⟨_, rfl, _, _, _, _, rfl, rfl, hS, rfl, k⟩
    · rw [if_neg c1] at k
      exact ⟨_, rfl, _, _, _, _, rfl, rfl, hS, rfl, k⟩
theorem fit5 {z : Int} {f : F5} (hz : 0 ≤ z ∧ z ≤ 1000000000) (hf : f.Good) {b : Int} (b0 : 1 ≤ b) (b1 : b ≤ 1000000000) : Fits z f.fin (len5 f z) b :=
  ⟨hz.1, Int.le_trans hz.2 (by decide), hf.e.1, Int.le_trans hf.e.2 (by decide), (len5_in hf z).1, Int.le_trans (len5_in hf z).2 (by decide), b0, Int.le_trans b1 (by decide)⟩
theorem stand_le {s e l t b : Int} (hs : 0 ≤ s ∧ s ≤ 1000000000) (he : 0 ≤ e ∧ e ≤ 1000000000) (hl : 0 ≤ l) (hb : 1 ≤ b) : 0 ≤ stand s e l t b ∧ stand s e l t b ≤ 1000000000 := by
  unfold stand
  by_cases c1 : t < 0
  · rw [if_pos c1]
    exact hs
  rw [if_neg c1]
  by_cases c2 : b * l ≤ t
  · rw [if_pos c2]
    exact he
  rw [if_neg c2]
  have hp : 0 < b * l := by omega
  have hw : 0 ≤ way s e := by
    unfold way
    split <;> omega
  have g0 : 0 ≤ way s e * t / (b * l) := Int.ediv_nonneg (Int.mul_nonneg hw (by omega)) (by omega)
  have g1 : way s e * t / (b * l) ≤ way s e := by
    have h2 : way s e * t ≤ way s e * (b * l) := Int.mul_le_mul_of_nonneg_left (by omega) hw
    have h3 : way s e * t / (b * l) * (b * l) ≤ way s e * t := Int.ediv_mul_le _ (by omega)
    exact Int.le_of_mul_le_mul_right (Int.le_trans h3 h2) hp
  generalize way s e * t / (b * l) = g at g0 g1 ⊢
  unfold way at g1
  by_cases c3 : e < s
  · rw [if_pos c3]
    split at g1 <;> omega
  · rw [if_neg c3]
    split at g1 <;> omega
theorem start5_in {z : Int} {f g : F5} (hz : 0 ≤ z ∧ z ≤ 1000000000) (hf : f.Good) : 0 ≤ start5 z f g ∧ start5 z f g ≤ 1000000000 := by
  unfold start5
  split
  · exact stand_le hz hf.e (len5_in hf z).1 (by decide)
  · exact hz
def spStart (K : PySem.W.Frag) : Sp := fun vs H Q _ => ∃ (z : Int) (a b : Addr), vs = [.int z, .ref a, .ref b] ∧ ∃ f g : F5, (0 ≤ z ∧ z ≤ 1000000000) ∧ f.Good ∧ g.Good ∧ SqL K H a f.v ∧ SqL K H b g.v ∧ Q (.int (start5 z f g)) H
theorem ok_l_start (T : Txt K mg) : ∃ fd, FnOk P w K mg base CX0 2 (He.fAd K ("_law_start", none)) fd ["_law_first", "_law_one", "_law_other"] (spStart K) ∧ FunD K "_law_start" "_law_start" (defArgs s_l_start) (defBody s_l_start) (defScope s_l_start) [] [] (He.fAd K ("_law_start", none)) fd := by
  obtain ⟨fd, F⟩ := T.c.def_ 12 (d := d_l_start) rfl
  obtain ⟨fd_l_gone, G_l_gone, F_l_gone⟩ := ok_l_gone (P := P) (w := w) (base := base) T
  have kp_l_gone := F_l_gone.kp
  have b_l_gone : Binds K fd_l_gone ["_law_start_here", "_law_end", "_law_length_here", "_law_top", "_law_bottom"] [] := FunD.bindsN F_l_gone (fun _ _ _ _ _ _ us hl => match us, hl with | [_, _, _, _, _], _ => rfl)
  obtain ⟨fd_l_length, G_l_length, F_l_length⟩ := ok_l_length (P := P) (w := w) (base := base) T
  have kp_l_length := F_l_length.kp
  have b_l_length : Binds K fd_l_length ["_law_fade_here", "_law_start_here"] [] := FunD.bindsN F_l_length (fun _ _ _ _ _ _ us hl => match us, hl with | [_, _], _ => rfl)
  refine ⟨fd, F.ok sc_l_start (by walk_at "g94len") (fun cdv A outer st H vs Q E hr h => ?_), F⟩
  · obtain ⟨z, a, b, rfl, f, g, hz, hf, hg, hA, hB, k⟩ := h
    refine ⟨_, PSs.nox (pss_cons (ps_set (i := 3) sc_l_start.nd rfl (Or.inl rfl) (pe_op op_add (pe_ix ix_list (pv 1) pe_int (fun _ _ => rfl)) (pe_ix ix_list (pv 1) pe_int (fun _ _ => rfl))))
        (pss_cons (ps_set (i := 4) sc_l_start.nd rfl (Or.inl rfl) (pe_op op_add (pe_ix ix_list (pv 2) pe_int (fun _ _ => rfl)) (pe_ix ix_list (pv 2) pe_int (fun _ _ => rfl))))
        (pss_cons (ps_if (pt_cmpR op_lt (pv 3) (pv 4) (nomark _)) (pss_one (ps_ret (pe_call G_l_gone (hr.mono (by decide)) rfl (glo__law_gone T) kp_l_gone b_l_gone .nil pass0 (pa_cons (pv 0) (pa_cons (pe_ix ix_list (pv 1) pe_int (fun _ _ => rfl)) (pa_cons (pe_call G_l_length (hr.mono (by decide)) rfl (glo__law_length T) kp_l_length b_l_length .nil pass0 (pa_cons (pv 1) (pa_cons (pv 0) pa_nil))) (pa_cons (pe_op op_sub (pv 4) (pv 3)) (pa_cons pe_int pa_nil)))))))) pss_nil)
        (pss_one (ps_ret (pv 0)))))), ?_⟩
    refine ⟨_, rfl, _, _, _, _, rfl, rfl, hA, rfl, _, rfl, _, _, _, _, rfl, rfl, hA, rfl, _, _, rfl, rfl, ?_⟩
    refine ⟨_, rfl, _, _, _, _, rfl, rfl, hB, rfl, _, rfl, _, _, _, _, rfl, rfl, hB, rfl, _, _, rfl, rfl, ?_⟩
    refine ⟨_, rfl, _, rfl, _, _, rfl, rfl, _, rfl, ?_⟩
    unfold start5 at k
    walk_at "ri" <;> intro c1
    · rw [if_pos (show f.out < g.out from c1)] at k
      refine ⟨_, rfl, _, rfl, _, _, _, _, rfl, rfl, hA, rfl, _, rfl, _, rfl, _, _, rfl, f, hA, _, rfl, _, rfl, _, _, rfl, rfl, ?_⟩
      exact ⟨_, _, _, _, _, rfl, fit5 hz hf (by decide) (by decide), k⟩
    · rw [if_neg (show ¬ f.out < g.out from c1)] at k
      exact ⟨_, rfl, k⟩
def spDue (K : PySem.W.Frag) : Sp := fun vs H Q _ => ∃ (z : Int) (a b : Addr) (t c : Int), vs = [.int z, .ref a, .ref b, .int t, .int c] ∧ ∃ f g : F5, (0 ≤ z ∧ z ≤ 1000000000) ∧ f.Good ∧ g.Good ∧ SqL K H a f.v ∧ SqL K H b g.v ∧ 1 ≤ c ∧ c ≤ 1000000000 ∧ Q (.int (due5 z f g t c)) H
theorem ok_l_due (T : Txt K mg) : ∃ fd, FnOk P w K mg base CX0 3 (He.fAd K ("_law_due", none)) fd ["_law_first", "_law_one", "_law_other", "_law_top", "_law_bottom"] (spDue K) ∧ FunD K "_law_due" "_law_due" (defArgs s_l_due) (defBody s_l_due) (defScope s_l_due) [] [] (He.fAd K ("_law_due", none)) fd := by
  obtain ⟨fd, F⟩ := T.c.def_ 13 (d := d_l_due) rfl
  obtain ⟨fd_l_start, G_l_start, F_l_start⟩ := ok_l_start (P := P) (w := w) (base := base) T
  have kp_l_start := F_l_start.kp
  have b_l_start : Binds K fd_l_start ["_law_first", "_law_one", "_law_other"] [] := FunD.bindsN F_l_start (fun _ _ _ _ _ _ us hl => match us, hl with | [_, _, _], _ => rfl)
  obtain ⟨fd_l_gone, G_l_gone, F_l_gone⟩ := ok_l_gone (P := P) (w := w) (base := base) T
  have kp_l_gone := F_l_gone.kp
  have b_l_gone : Binds K fd_l_gone ["_law_start_here", "_law_end", "_law_length_here", "_law_top", "_law_bottom"] [] := FunD.bindsN F_l_gone (fun _ _ _ _ _ _ us hl => match us, hl with | [_, _, _, _, _], _ => rfl)
  obtain ⟨fd_l_length, G_l_length, F_l_length⟩ := ok_l_length (P := P) (w := w) (base := base) T
  have kp_l_length := F_l_length.kp
  have b_l_length : Binds K fd_l_length ["_law_fade_here", "_law_start_here"] [] := FunD.bindsN F_l_length (fun _ _ _ _ _ _ us hl => match us, hl with | [_, _], _ => rfl)
  refine ⟨fd, F.ok sc_l_due (by walk_at "g94len") (fun cdv A outer st H vs Q E hr h => ?_), F⟩
  · obtain ⟨z, a, b, t, c, rfl, f, g, hz, hf, hg, hA, hB, c0, c1, k⟩ := h
    refine ⟨_, PSs.nox (pss_cons (ps_set (i := 5) sc_l_due.nd rfl (Or.inl rfl) (pe_op op_add (pe_ix ix_list (pv 1) pe_int (fun _ _ => rfl)) (pe_ix ix_list (pv 1) pe_int (fun _ _ => rfl))))
        (pss_cons (ps_set (i := 6) sc_l_due.nd rfl (Or.inl rfl) (pe_op op_add (pe_ix ix_list (pv 2) pe_int (fun _ _ => rfl)) (pe_ix ix_list (pv 2) pe_int (fun _ _ => rfl))))
        (pss_cons (ps_if (pt_cmpR op_ge (pv 3) (pe_op op_mul (pv 6) (pv 4)) (nomark _)) (pss_cons (ps_set (i := 7) sc_l_due.nd rfl (Or.inl rfl) (pe_call G_l_start (hr.mono (by decide)) rfl (glo__law_start T) kp_l_start b_l_start .nil pass0 (pa_cons (pv 0) (pa_cons (pv 1) (pa_cons (pv 2) pa_nil)))))
        (pss_one (ps_ret (pe_call G_l_gone (hr.mono (by decide)) rfl (glo__law_gone T) kp_l_gone b_l_gone .nil pass0 (pa_cons (pv 7) (pa_cons (pe_ix ix_list (pv 2) pe_int (fun _ _ => rfl)) (pa_cons (pe_call G_l_length (hr.mono (by decide)) rfl (glo__law_length T) kp_l_length b_l_length .nil pass0 (pa_cons (pv 2) (pa_cons (pv 7) pa_nil))) (pa_cons (pe_op op_sub (pv 3) (pe_op op_mul (pv 6) (pv 4))) (pa_cons (pv 4) pa_nil))))))))) pss_nil)
        (pss_cons (ps_if (pt_cmpR op_lt (pv 5) (pv 6) (nomark _)) (pss_one (ps_ret (pe_call G_l_gone (hr.mono (by decide)) rfl (glo__law_gone T) kp_l_gone b_l_gone .nil pass0 (pa_cons (pv 0) (pa_cons (pe_ix ix_list (pv 1) pe_int (fun _ _ => rfl)) (pa_cons (pe_call G_l_length (hr.mono (by decide)) rfl (glo__law_length T) kp_l_length b_l_length .nil pass0 (pa_cons (pv 1) (pa_cons (pv 0) pa_nil))) (pa_cons (pe_op op_sub (pv 3) (pe_op op_mul (pv 5) (pv 4))) (pa_cons (pv 4) pa_nil)))))))) pss_nil)
        (pss_one (ps_ret (pv 0))))))), ?_⟩
    have hc : -(2 ^ 64) < c ∧ c < 2 ^ 64 := by omega
    refine ⟨_, rfl, _, _, _, _, rfl, rfl, hA, rfl, _, rfl, _, _, _, _, rfl, rfl, hA, rfl, _, _, rfl, rfl, ?_⟩
    refine ⟨_, rfl, _, _, _, _, rfl, rfl, hB, rfl, _, rfl, _, _, _, _, rfl, rfl, hB, rfl, _, _, rfl, rfl, ?_⟩
    refine ⟨_, rfl, _, rfl, _, rfl, _, _, rfl, rfl, .inr hc, _, _, rfl, rfl, _, rfl, ?_⟩
    unfold due5 at k
    walk_at "ri" <;> intro d1
    · rw [if_pos (show g.out * c ≤ t from d1)] at k
      have hs := start5_in (g := g) hz hf
      refine ⟨_, rfl, _, rfl, _, rfl, z, a, b, rfl, f, g, hz, hf, hg, hA, hB, ?_⟩
      refine ⟨_, rfl, _, rfl, _, _, _, _, rfl, rfl, hB, rfl, _, rfl, _, rfl, _, _, rfl, g, hB, _, rfl, _, rfl, _, rfl, _, _, rfl, rfl, .inr hc, _, _, rfl, rfl, _, rfl, ?_⟩
      exact ⟨_, _, _, _, _, rfl, fit5 hs hg c0 c1, k⟩
    rw [if_neg (show ¬ g.out * c ≤ t from d1)] at k
    refine ⟨_, rfl, _, rfl, _, _, rfl, rfl, _, rfl, ?_⟩
    walk_at "ri" <;> intro d2
    · rw [if_pos (show f.out < g.out from d2)] at k
      refine ⟨_, rfl, _, rfl, _, _, _, _, rfl, rfl, hA, rfl, _, rfl, _, rfl, _, _, rfl, f, hA, _, rfl, _, rfl, _, rfl, _, _, rfl, rfl, .inr hc, _, _, rfl, rfl, _, rfl, ?_⟩
      exact ⟨_, _, _, _, _, rfl, fit5 hz hf c0 c1, k⟩
    · rw [if_neg (show ¬ f.out < g.out from d2)] at k
      exact ⟨_, rfl, k⟩
def spEnds (K : PySem.W.Frag) : Sp := fun vs H Q _ => ∃ (z : Int) (a b : Addr), vs = [.int z, .ref a, .ref b] ∧ ∃ f g : F5, (0 ≤ z ∧ z ≤ 1000000000) ∧ f.Good ∧ g.Good ∧ SqL K H a f.v ∧ SqL K H b g.v ∧
  ∀ p, H p = none → Q (.ref p) (upd H p (.lst ([f.out, g.out, f.out + len5 f z, g.out + len5 g (start5 z f g)].map V.int)))
theorem ok_l_ends (T : Txt K mg) : ∃ fd, FnOk P w K mg base CX0 3 (He.fAd K ("_law_ends", none)) fd ["_law_first", "_law_one", "_law_other"] (spEnds K) ∧ FunD K "_law_ends" "_law_ends" (defArgs s_l_ends) (defBody s_l_ends) (defScope s_l_ends) [] [] (He.fAd K ("_law_ends", none)) fd := by
  obtain ⟨fd, F⟩ := T.c.def_ 14 (d := d_l_ends) rfl
  obtain ⟨fd_l_start, G_l_start, F_l_start⟩ := ok_l_start (P := P) (w := w) (base := base) T
  have kp_l_start := F_l_start.kp
  have b_l_start : Binds K fd_l_start ["_law_first", "_law_one", "_law_other"] [] := FunD.bindsN F_l_start (fun _ _ _ _ _ _ us hl => match us, hl with | [_, _, _], _ => rfl)
  obtain ⟨fd_l_length, G_l_length, F_l_length⟩ := ok_l_length (P := P) (w := w) (base := base) T
  have kp_l_length := F_l_length.kp
  have b_l_length : Binds K fd_l_length ["_law_fade_here", "_law_start_here"] [] := FunD.bindsN F_l_length (fun _ _ _ _ _ _ us hl => match us, hl with | [_, _], _ => rfl)
  refine ⟨fd, F.ok sc_l_ends (by walk_at "g94len") (fun cdv A outer st H vs Q E hr h => ?_), F⟩
  · obtain ⟨z, a, b, rfl, f, g, hz, hf, hg, hA, hB, k⟩ := h
    refine ⟨_, PSs.nox (pss_cons (ps_set (i := 3) sc_l_ends.nd rfl (Or.inl rfl) (pe_op op_add (pe_ix ix_list (pv 1) pe_int (fun _ _ => rfl)) (pe_ix ix_list (pv 1) pe_int (fun _ _ => rfl))))
        (pss_cons (ps_set (i := 4) sc_l_ends.nd rfl (Or.inl rfl) (pe_op op_add (pe_ix ix_list (pv 2) pe_int (fun _ _ => rfl)) (pe_ix ix_list (pv 2) pe_int (fun _ _ => rfl))))
        (pss_cons (ps_set (i := 5) sc_l_ends.nd rfl (Or.inl rfl) (pe_call G_l_start (hr.mono (by decide)) rfl (glo__law_start T) kp_l_start b_l_start .nil pass0 (pa_cons (pv 0) (pa_cons (pv 1) (pa_cons (pv 2) pa_nil)))))
        (pss_one (ps_ret (pe_lst (pa_cons (pv 3) (pa_cons (pv 4) (pa_cons (pe_op op_add (pv 3) (pe_call G_l_length (hr.mono (by decide)) rfl (glo__law_length T) kp_l_length b_l_length .nil pass0 (pa_cons (pv 1) (pa_cons (pv 0) pa_nil)))) (pa_cons (pe_op op_add (pv 4) (pe_call G_l_length (hr.mono (by decide)) rfl (glo__law_length T) kp_l_length b_l_length .nil pass0 (pa_cons (pv 2) (pa_cons (pv 5) pa_nil)))) pa_nil)))))))))), ?_⟩
    refine ⟨_, rfl, _, _, _, _, rfl, rfl, hA, rfl, _, rfl, _, _, _, _, rfl, rfl, hA, rfl, _, _, rfl, rfl, ?_⟩
    refine ⟨_, rfl, _, _, _, _, rfl, rfl, hB, rfl, _, rfl, _, _, _, _, rfl, rfl, hB, rfl, _, _, rfl, rfl, ?_⟩
    refine ⟨_, rfl, _, rfl, _, rfl, z, a, b, rfl, f, g, hz, hf, hg, hA, hB, ?_⟩
    refine ⟨_, rfl, _, rfl, _, rfl, _, rfl, _, rfl, _, _, rfl, f, hA, _, _, rfl, rfl, _, rfl, _, rfl, _, rfl, _, _, rfl, g, hB, _, _, rfl, rfl, small_size (Nat.le_of_ble_eq_true rfl), ?_⟩
    exact k
def spSpot (K : PySem.W.Frag) : Sp := fun vs H Q _ => ∃ (c : Int) (a : Addr), vs = [.int c, .ref a] ∧ ∃ x y z u : Int, SqL K H a ([x, y, z, u].map V.int) ∧ ∀ (t b : Int) (p : Addr) (H' : Hp), 1 ≤ b → b ≤ 1000000000 → Same H H' → H' p = some (.tup [.int t, .int b]) → Q (.ref p) H'
theorem ok_l_spot (T : Txt K mg) : ∃ fd, FnOk P w K mg base CX0 1 (He.fAd K ("_law_spot", none)) fd ["_law_cell", "_law_ticks"] (spSpot K) ∧ FunD K "_law_spot" "_law_spot" (defArgs s_l_spot) (defBody s_l_spot) (defScope s_l_spot) [] [] (He.fAd K ("_law_spot", none)) fd := by
  obtain ⟨fd, F⟩ := T.c.def_ 9 (d := d_l_spot) rfl
  refine ⟨fd, F.ok sc_l_spot (by walk_at "g94len") (fun cdv A outer st H vs Q E hr h => ?_), F⟩
  · obtain ⟨c, a, rfl, x, y, z, u, hS, k⟩ := h
    refine ⟨_, PSs.nox (pss_cons (ps_set (i := 2) sc_l_spot.nd rfl (Or.inl rfl) (pe_ix ix_list (pe_lst (pa_cons pe_int (pa_cons (pe_op op_add pe_int (pe_op op_mod (pe_op op_fdiv (pv 0) pe_int) pe_int)) (pa_cons (pe_op op_add pe_int (pe_op op_mod (pe_op op_fdiv (pv 0) pe_int) (pe_powC (v := 1000000000) (by rfl) (by decide +kernel)))) pa_nil)))) (pe_op op_mod (pv 0) pe_int) (fun _ _ => rfl)))
        (pss_cons (ps_set (i := 3) sc_l_spot.nd rfl (Or.inl rfl) (pe_op op_fdiv (pv 0) pe_int))
        (pss_cons (ps_if (pt_cmpR op_eq (pe_op op_mod (pe_op op_fdiv (pv 0) pe_int) pe_int) pe_int (nomark _)) (pss_one (ps_ret (pe_tup (pa_cons (pe_op op_mod (pv 3) (pe_op op_add (pe_op op_mul (pe_powC (v := 10000000000) (by rfl) (by decide +kernel)) (pv 2)) pe_int)) (pa_cons (pv 2) pa_nil))))) pss_nil)
        (pss_cons (ps_set (i := 4) sc_l_spot.nd rfl (Or.inl rfl) (pe_ix ix_list (pv 1) (pe_op op_sub (pe_op op_mod (pe_op op_fdiv (pv 0) pe_int) pe_int) pe_int) (fun _ _ => rfl)))
        (pss_cons (ps_if (pt_cmpR op_eq (pe_op op_mod (pv 3) pe_int) pe_int (nomark _)) (pss_one (ps_ret (pe_tup (pa_cons (pe_callB (call_max2 rfl) (by rfl) (free_max T) (by decide +kernel) (pa_cons pe_int (pa_cons (pe_op op_sub (pe_op op_add (pe_op op_mul (pv 4) (pv 2)) (pe_op op_mod (pe_op op_fdiv (pv 3) pe_int) pe_int)) pe_int) pa_nil))) (pa_cons (pv 2) pa_nil))))) pss_nil)
        (pss_one (ps_ret (pe_tup (pa_cons (pe_callB (call_max2 rfl) (by rfl) (free_max T) (by decide +kernel) (pa_cons pe_int (pa_cons (pe_op op_add (pe_op op_mul (pe_op op_sub (pe_op op_add (pv 4) (pe_op op_mod (pe_op op_fdiv (pv 3) pe_int) pe_int)) pe_int) (pv 2)) (pe_op op_mod (pe_op op_fdiv (pv 3) pe_int) (pv 2))) pa_nil))) (pa_cons (pv 2) pa_nil)))))))))), ?_⟩
    walk_at "rds"
    intro p1 hp1
    walk_at "rds"
    obtain ⟨b, hv, hb⟩ := at3 (a := 1) (b := 1 + c / 5 % 7) (c := 1 + c / 5 % 1000000000) (k := c % 3) (by omega) (by omega)
    refine ⟨_, _, _, _, rfl, rfl, SqL.of upd_same, hv, ?_⟩
    have s1 := (Same.refl H).new (o := HO.lst [V.int 1, V.int (1 + c / 5 % 7), V.int (1 + c / 5 % 1000000000)]) hp1
    have b0 : 1 ≤ b ∧ b ≤ 1000000000 := by omega
    clear hv hb
    walk_at "nf"
    generalize upd H p1 (HO.lst [V.int 1, V.int (1 + c / 5 % 7), V.int (1 + c / 5 % 1000000000)]) = H1 at s1 ⊢
    walk_at "rds"
    walk_at "ri" <;> intro c1
    · walk_at "rds"
      intro p hp
      exact k _ _ p _ b0.1 b0.2 (s1.new hp) upd_same
    obtain ⟨v, hv⟩ := at4 (a := x) (b := y) (c := z) (d := u) (k := c / 3 % 5 - 1) (by omega) (by omega)
    walk_at "rds"
    refine ⟨_, _, _, _, rfl, rfl, s1.seq hS, hv, ?_⟩
    walk_at "rds"
    walk_at "ri" <;> intro c2
    · walk_at "rds"
      intro p hp
      exact k _ _ p _ b0.1 b0.2 (s1.new hp) upd_same
    walk_at "rds"
    intro p hp
    exact k _ _ p _ b0.1 b0.2 (s1.new hp) upd_same
def crs1 (z : Int) (f : F5) : Crs := ⟨z, [⟨f.out, z, f.fin, len5 f z⟩]⟩
theorem tell1 (z : Int) (f : F5) : (Crs.mk z []).tell f.now f.wait f.rise f.fall f.fin = crs1 z f := rfl
def crs2 (z : Int) (f g : F5) : Crs := ⟨z, (if f.out < g.out then [⟨f.out, z, f.fin, len5 f z⟩] else []) ++ [⟨g.out, start5 z f g, g.fin, len5 g (start5 z f g)⟩]⟩
theorem tell2 (z : Int) (f g : F5) : (crs1 z f).tell g.now g.wait g.rise g.fall g.fin = crs2 z f g := by
  have e1 : kept (g.now + g.wait) (crs1 z f).fades = if f.out < g.out then [⟨f.out, z, f.fin, len5 f z⟩] else [] := by
    show kept g.out ([] ++ [⟨f.out, z, f.fin, len5 f z⟩]) = _
    by_cases h : f.out < g.out
    · rw [if_pos h, kept_yes h]
      rfl
    · rw [if_neg h, kept_no h]
      rfl
  have e2 : look z (g.now + g.wait) 1 (kept (g.now + g.wait) (crs1 z f).fades).reverse = start5 z f g := by
    rw [e1]
    unfold start5
    by_cases h : f.out < g.out
    · rw [if_pos h, if_pos h]
      show look z g.out 1 [⟨f.out, z, f.fin, len5 f z⟩] = _
      rw [look_yes (by show f.out * 1 ≤ g.out; omega)]
      show stand z f.fin (len5 f z) (g.out - f.out * 1) 1 = _
      rw [Int.mul_one]
    · rw [if_neg h, if_neg h]
      rfl
  show Crs.mk z (kept (g.now + g.wait) (crs1 z f).fades ++ [⟨g.now + g.wait, look z (g.now + g.wait) 1 (kept (g.now + g.wait) (crs1 z f).fades).reverse, g.fin, if look z (g.now + g.wait) 1 (kept (g.now + g.wait) (crs1 z f).fades).reverse < g.fin then g.rise else g.fall⟩]) = _
  rw [e2, e1]
  rfl
theorem pos2 (z : Int) (f g : F5) (t b : Int) : (crs2 z f g).pos t b = due5 z f g t b := by
  unfold crs2 Crs.pos due5
  by_cases h : f.out < g.out
  · rw [if_pos h, if_pos h]
    show look z t b [⟨g.out, _, _, _⟩, ⟨f.out, _, _, _⟩] = _
    by_cases h1 : g.out * b ≤ t
    · rw [if_pos h1, look_yes h1]
    · rw [if_neg h1, look_no h1]
      by_cases h2 : f.out * b ≤ t
      · exact look_yes h2
      · rw [look_no h2]
        show z = _
        unfold stand
        rw [if_pos (by omega)]
  · rw [if_neg h, if_neg h]
    show look z t b [⟨g.out, _, _, _⟩] = _
    by_cases h1 : g.out * b ≤ t
    · rw [if_pos h1, look_yes h1]
    · rw [if_neg h1, look_no h1]
      rfl
theorem aim2 (z : Int) (f g : F5) : (crs2 z f g).aim = g.fin := by
  unfold crs2
  by_cases h : f.out < g.out
  · rw [if_pos h]
    rfl
  · rw [if_neg h]
    rfl
theorem still2 (z : Int) (f g : F5) : (crs2 z f g).still = g.out + len5 g (start5 z f g) := by
  unfold crs2
  by_cases h : f.out < g.out
  · rw [if_pos h]
    rfl
  · rw [if_neg h]
    rfl
theorem inr_of {x : Int} (h : 0 ≤ x ∧ x ≤ 1000000000) : Inr x := ⟨h.1, Int.le_trans h.2 (by decide)⟩
theorem good0 {z : Int} (hz : 0 ≤ z ∧ z ≤ 1000000000) : (Crs.mk z []).Good := ⟨inr_of hz, fun f hf => by cases hf⟩
theorem good1 {z : Int} (hz : 0 ≤ z ∧ z ≤ 1000000000) {f : F5} (hf : f.Good) : (crs1 z f).Good := by
  rw [← tell1]
  exact (good0 hz).tell (inr_of hf.r) (inr_of hf.a) (inr_of hf.e)
theorem good2 {z : Int} (hz : 0 ≤ z ∧ z ≤ 1000000000) {f g : F5} (hf : f.Good) (hg : g.Good) : (crs2 z f g).Good := by
  rw [← tell2]
  exact (good1 hz hf).tell (inr_of hg.r) (inr_of hg.a) (inr_of hg.e)
def spLaw (K : PySem.W.Frag) : Sp := fun vs H Q _ => ∃ (a : Addr) (ns : List Int), vs = [.ref a] ∧ SqL K H a (ns.map V.int) ∧ ns.length ≤ 63 ∧ (∀ z ∈ ns, Builtin.Int.intBits z ≤ 1048576) ∧ Only H ∧ ∀ H', Q (.bl true) H'
theorem ok_law (T : Txt K mg) : ∃ fd, FnOk P w K mg base CX0 6 (He.fAd K ("law", none)) fd ["_law_script"] (spLaw K) ∧ FunD K "law" "law" (defArgs s_law) (defBody s_law) (defScope s_law) [] [] (He.fAd K ("law", none)) fd := by
  obtain ⟨fd, F⟩ := T.c.def_ 15 (d := d_law) rfl
  obtain ⟨fd_l_fade, G_l_fade, F_l_fade⟩ := ok_l_fade (P := P) (w := w) (base := base) T
  have kp_l_fade := F_l_fade.kp
  have b_l_fade : Binds K fd_l_fade ["_law_script", "_law_k", "_law_most"] [] := FunD.bindsN F_l_fade (fun _ _ _ _ _ _ us hl => match us, hl with | [_, _, _], _ => rfl)
  obtain ⟨fd_l_ends, G_l_ends, F_l_ends⟩ := ok_l_ends (P := P) (w := w) (base := base) T
  have kp_l_ends := F_l_ends.kp
  have b_l_ends : Binds K fd_l_ends ["_law_first", "_law_one", "_law_other"] [] := FunD.bindsN F_l_ends (fun _ _ _ _ _ _ us hl => match us, hl with | [_, _, _], _ => rfl)
  obtain ⟨fd_Course_init, G_Course_init, F_Course_init⟩ := ok_Course_init (P := P) (w := w) (base := base) T
  have kp_Course_init := F_Course_init.kp
  obtain ⟨d0_Course_init, v0_Course_init, b0_Course_init⟩ : ∃ ds, Vals ([V.int 0].drop 1) ds ∧ Binds K fd_Course_init ["self", "worth"] ds := F_Course_init.binds1 2 1 (by decide) rfl (fun _ _ _ _ _ _ _ us its h1 h2 => match us, its, h1, h2 with | [_, _], [_], _, _ => ⟨_, rfl, rfl⟩)
  obtain ⟨fd_Course_tell, G_Course_tell, F_Course_tell⟩ := ok_Course_tell (P := P) (w := w) (base := base) T
  have kp_Course_tell := F_Course_tell.kp
  have b_Course_tell : Binds K fd_Course_tell ["self", "now", "wait", "rise", "fall", "end"] [] := FunD.bindsN F_Course_tell (fun _ _ _ _ _ _ us hl => match us, hl with | [_, _, _, _, _, _], _ => rfl)
  obtain ⟨fd_Course_aim, G_Course_aim, F_Course_aim⟩ := ok_Course_aim (P := P) (w := w) (base := base) T
  have kp_Course_aim := F_Course_aim.kp
  have b_Course_aim : Binds K fd_Course_aim ["self"] [] := FunD.bindsN F_Course_aim (fun _ _ _ _ _ _ us hl => match us, hl with | [_], _ => rfl)
  obtain ⟨fd_Course_still, G_Course_still, F_Course_still⟩ := ok_Course_still (P := P) (w := w) (base := base) T
  have kp_Course_still := F_Course_still.kp
  have b_Course_still : Binds K fd_Course_still ["self"] [] := FunD.bindsN F_Course_still (fun _ _ _ _ _ _ us hl => match us, hl with | [_], _ => rfl)
  obtain ⟨fd_l_cell_at, G_l_cell_at, F_l_cell_at⟩ := ok_l_cell_at (P := P) (w := w) (base := base) T
  have kp_l_cell_at := F_l_cell_at.kp
  have b_l_cell_at : Binds K fd_l_cell_at ["_law_script", "_law_k"] [] := FunD.bindsN F_l_cell_at (fun _ _ _ _ _ _ us hl => match us, hl with | [_, _], _ => rfl)
  obtain ⟨fd_l_spot, G_l_spot, F_l_spot⟩ := ok_l_spot (P := P) (w := w) (base := base) T
  have kp_l_spot := F_l_spot.kp
  have b_l_spot : Binds K fd_l_spot ["_law_cell", "_law_ticks"] [] := FunD.bindsN F_l_spot (fun _ _ _ _ _ _ us hl => match us, hl with | [_, _], _ => rfl)
  obtain ⟨fd_Course_at, G_Course_at, F_Course_at⟩ := ok_Course_at (P := P) (w := w) (base := base) T
  have kp_Course_at := F_Course_at.kp
  obtain ⟨d0_Course_at, v0_Course_at, b0_Course_at⟩ : ∃ ds, Vals ([V.int 1].drop 1) ds ∧ Binds K fd_Course_at ["self", "top", "bottom"] ds := F_Course_at.binds1 3 1 (by decide) rfl (fun _ _ _ _ _ _ _ us its h1 h2 => match us, its, h1, h2 with | [_, _, _], [_], _, _ => ⟨_, rfl, rfl⟩)
  obtain ⟨fd_l_whole, G_l_whole, F_l_whole⟩ := ok_l_whole (P := P) (w := w) (base := base) T
  have kp_l_whole := F_l_whole.kp
  have b_l_whole : Binds K fd_l_whole ["_law_found"] [] := FunD.bindsN F_l_whole (fun _ _ _ _ _ _ us hl => match us, hl with | [_], _ => rfl)
  obtain ⟨fd_l_length, G_l_length, F_l_length⟩ := ok_l_length (P := P) (w := w) (base := base) T
  have kp_l_length := F_l_length.kp
  have b_l_length : Binds K fd_l_length ["_law_fade_here", "_law_start_here"] [] := FunD.bindsN F_l_length (fun _ _ _ _ _ _ us hl => match us, hl with | [_, _], _ => rfl)
  obtain ⟨fd_l_due, G_l_due, F_l_due⟩ := ok_l_due (P := P) (w := w) (base := base) T
  have kp_l_due := F_l_due.kp
  have b_l_due : Binds K fd_l_due ["_law_first", "_law_one", "_law_other", "_law_top", "_law_bottom"] [] := FunD.bindsN F_l_due (fun _ _ _ _ _ _ us hl => match us, hl with | [_, _, _, _, _], _ => rfl)
  refine ⟨fd, F.ok sc_law (by walk_at "g94len") (fun cdv A outer st H vs Q E hr h => ?_), F⟩
  · obtain ⟨a, ns, rfl, hS, hlen, hbits, hO, k⟩ := h
    refine ⟨_, PSs.nox (pss_cons (ps_set (i := 1) sc_law.nd rfl (Or.inl rfl) (pe_op op_mod (pe_call G_l_cell_at (hr.mono (by decide)) rfl (glo__law_cell_at T) kp_l_cell_at b_l_cell_at .nil pass0 (pa_cons (pv 0) (pa_cons pe_int pa_nil))) (pe_op op_add (pe_powC (v := 1000000000) (by rfl) (by decide +kernel)) pe_int)))
        (pss_cons (ps_set (i := 2) sc_law.nd rfl (Or.inl rfl) (pe_ix ix_list (pe_lst (pa_cons pe_int (pa_cons (pe_op op_add (pe_powC (v := 1000000000) (by rfl) (by decide +kernel)) pe_int) pa_nil))) (pe_op op_mod (pe_call G_l_cell_at (hr.mono (by decide)) rfl (glo__law_cell_at T) kp_l_cell_at b_l_cell_at .nil pass0 (pa_cons (pv 0) (pa_cons pe_int pa_nil))) pe_int) (fun _ _ => rfl)))
        (pss_cons (ps_set (i := 3) sc_law.nd rfl (Or.inl rfl) (pe_call G_l_fade (hr.mono (by decide)) rfl (glo__law_fade T) kp_l_fade b_l_fade .nil pass0 (pa_cons (pv 0) (pa_cons pe_int (pa_cons (pv 2) pa_nil)))))
        (pss_cons (ps_set (i := 4) sc_law.nd rfl (Or.inl rfl) (pe_call G_l_fade (hr.mono (by decide)) rfl (glo__law_fade T) kp_l_fade b_l_fade .nil pass0 (pa_cons (pv 0) (pa_cons pe_int (pa_cons (pv 2) pa_nil)))))
        (pss_cons (ps_set (i := 5) sc_law.nd rfl (Or.inl rfl) (pe_op op_mod (pe_op op_fdiv (pe_call G_l_cell_at (hr.mono (by decide)) rfl (glo__law_cell_at T) kp_l_cell_at b_l_cell_at .nil pass0 (pa_cons (pv 0) (pa_cons pe_int pa_nil))) pe_int) pe_int))
        (C8.pss_cut (ps_if (pt_cmpR op_eq (pe_op op_mod (pe_op op_fdiv (pe_call G_l_cell_at (hr.mono (by decide)) rfl (glo__law_cell_at T) kp_l_cell_at b_l_cell_at .nil pass0 (pa_cons (pv 0) (pa_cons pe_int pa_nil))) pe_int) pe_int) pe_int (nomark _)) (pss_cons (ps_asg pe_int (pg_sub (pv 3) pe_int set_list))
        (pss_one (ps_asg pe_int (pg_sub (pv 3) pe_int set_list)))) pss_nil)
        (C8.pss_cut (ps_if (pt_cmpR op_eq (pv 5) pe_int (nomark _)) (pss_cons (ps_asg (pe_op op_add (pe_ix ix_list (pv 3) pe_int (fun _ _ => rfl)) (pe_ix ix_list (pv 3) pe_int (fun _ _ => rfl))) (pg_sub (pv 4) pe_int set_list))
        (pss_one (ps_asg pe_int (pg_sub (pv 4) pe_int set_list)))) pss_nil)
        (C8.pss_cut (ps_if (pt_cmpR op_eq (pv 5) pe_int (nomark _)) (pss_cons (ps_asg (pe_op op_add (pe_op op_add (pe_ix ix_list (pv 3) pe_int (fun _ _ => rfl)) (pe_ix ix_list (pv 3) pe_int (fun _ _ => rfl))) (pe_call G_l_length (hr.mono (by decide)) rfl (glo__law_length T) kp_l_length b_l_length .nil pass0 (pa_cons (pv 3) (pa_cons (pv 1) pa_nil)))) (pg_sub (pv 4) pe_int set_list))
        (pss_one (ps_asg pe_int (pg_sub (pv 4) pe_int set_list)))) pss_nil)
        (pss_cons (ps_set (i := 6) sc_law.nd rfl (Or.inl rfl) (pe_call G_l_ends (hr.mono (by decide)) rfl (glo__law_ends T) kp_l_ends b_l_ends .nil pass0 (pa_cons (pv 1) (pa_cons (pv 3) (pa_cons (pv 4) pa_nil)))))
        (pss_cons (ps_set (i := 7) sc_law.nd rfl (Or.inl rfl) (pe_make (mk_Course T) G_Course_init (hr.mono (by decide)) rfl (glo_Course T) b0_Course_init v0_Course_init pass0 (pa_cons (pv 1) pa_nil)))
        (pss_cons (ps_expr (pe_meth (pv 7) (cls_Course T) (m_Course_tell T) G_Course_tell (hr.mono (by decide)) b_Course_tell .nil pass0 (pa_cons (pe_ix ix_list (pv 3) pe_int (fun _ _ => rfl)) (pa_cons (pe_ix ix_list (pv 3) pe_int (fun _ _ => rfl)) (pa_cons (pe_ix ix_list (pv 3) pe_int (fun _ _ => rfl)) (pa_cons (pe_ix ix_list (pv 3) pe_int (fun _ _ => rfl)) (pa_cons (pe_ix ix_list (pv 3) pe_int (fun _ _ => rfl)) pa_nil)))))))
        (pss_cons (ps_expr (pe_meth (pv 7) (cls_Course T) (m_Course_tell T) G_Course_tell (hr.mono (by decide)) b_Course_tell .nil pass0 (pa_cons (pe_ix ix_list (pv 4) pe_int (fun _ _ => rfl)) (pa_cons (pe_ix ix_list (pv 4) pe_int (fun _ _ => rfl)) (pa_cons (pe_ix ix_list (pv 4) pe_int (fun _ _ => rfl)) (pa_cons (pe_ix ix_list (pv 4) pe_int (fun _ _ => rfl)) (pa_cons (pe_ix ix_list (pv 4) pe_int (fun _ _ => rfl)) pa_nil)))))))
        (pss_cons (ps_for PassesOwn.never rfl (pi_list (pe_slice sl_list (pv 0) (po_some pe_int) (po_some pe_int))) (pg_name (i := 8) sc_law.nd rfl (Or.inl rfl)) (pss_cons (ps_asg (pe_call G_l_spot (hr.mono (by decide)) rfl (glo__law_spot T) kp_l_spot b_l_spot .nil pass0 (pa_cons (pv 8) (pa_cons (pv 6) pa_nil))) (pg_tup rfl (pgs_cons (pg_name (i := 9) sc_law.nd rfl (Or.inl rfl)) (pgs_cons (pg_name (i := 10) sc_law.nd rfl (Or.inl rfl)) pgs_nil))))
        (pss_cons (ps_set (i := 11) sc_law.nd rfl (Or.inl rfl) (pe_meth (pv 7) (cls_Course T) (m_Course_at T) G_Course_at (hr.mono (by decide)) b0_Course_at v0_Course_at pass0 (pa_cons (pv 9) (pa_cons (pv 10) pa_nil))))
        (pss_one (ps_if (PW.pt (pw_or (pt_not (pt_val (pe_call G_l_whole (hr.mono (by decide)) rfl (glo__law_whole T) kp_l_whole b_l_whole .nil pass0 (pa_cons (pv 11) pa_nil)))) (pw_or1 (pt_cmpR op_ne (pv 11) (pe_call G_l_due (hr.mono (by decide)) rfl (glo__law_due T) kp_l_due b_l_due .nil pass0 (pa_cons (pv 1) (pa_cons (pv 3) (pa_cons (pv 4) (pa_cons (pv 9) (pa_cons (pv 10) pa_nil)))))) (nomark _))))) (pss_one (ps_ret pe_bl)) pss_nil)))))
        (pss_cons (ps_set (i := 12) sc_law.nd rfl (Or.inl rfl) (pe_meth0 (pv 7) (cls_Course T) (m_Course_aim T) G_Course_aim (hr.mono (by decide)) b_Course_aim .nil pass0))
        (pss_cons (ps_set (i := 13) sc_law.nd rfl (Or.inl rfl) (pe_meth0 (pv 7) (cls_Course T) (m_Course_still T) G_Course_still (hr.mono (by decide)) b_Course_still .nil pass0))
        (pss_one (ps_ret (pe_and (pe_call G_l_whole (hr.mono (by decide)) rfl (glo__law_whole T) kp_l_whole b_l_whole .nil pass0 (pa_cons (pv 12) pa_nil)) (pe_and (pe_cmpR op_eq (pv 12) (pe_ix ix_list (pv 4) pe_int (fun _ _ => rfl)) (nomark _)) (pe_and (pe_call G_l_whole (hr.mono (by decide)) rfl (glo__law_whole T) kp_l_whole b_l_whole .nil pass0 (pa_cons (pv 13) pa_nil)) (pe_one (pe_cmpR op_eq (pv 13) (pe_ix ix_list (pv 6) pe_int (fun _ _ => rfl)) (nomark _))))))))))))))))))))))), ?_⟩
    walk_at "rz"
    rename_i z0
    have hz : 0 ≤ z0 % (1000000000 + 1) ∧ z0 % (1000000000 + 1) ≤ 1000000000 := by omega
    walk_at "nf"
    generalize z0 % (1000000000 + 1) = z at hz ⊢
    intro p0 hp0
    have s0 := (Same.refl H).new (o := HO.lst [V.int 13, V.int (1000000000 + 1)]) hp0
    have hS0 := s0.seq hS
    walk_at "rz"
    rename_i q0
    obtain ⟨most, hv, hm⟩ := at2 (a := 13) (b := 1000000000 + 1) (k := q0 % 2) (by omega) (by omega)
    refine ⟨_, _, _, _, rfl, rfl, SqL.of upd_same, hv, ?_⟩
    have hm2 : 0 < most ∧ most ≤ 1000000001 := by omega
    clear hv hm
    walk_at "nf"
    generalize upd H p0 (HO.lst [V.int 13, V.int (1000000000 + 1)]) = H0 at s0 hS0 ⊢
    clear hp0
    refine ⟨_, rfl, _, rfl, a, 2, most, rfl, ⟨_, hS0⟩, by decide, hm2.1, hm2.2, fun f p1 H1 hf hf1 s1 n1 hp1 => ?_⟩
    have hS1 := s1.seq hS0
    refine ⟨_, rfl, _, rfl, a, 7, most, rfl, ⟨_, hS1⟩, by decide, hm2.1, hm2.2, fun g p2 H2 hg hg1 s2 n2 hp2 => ?_⟩
    have n12 : p1 ≠ p2 := ne_of_none hp1 n2
    have hp1' := s2 _ _ hp1
    have sA := (s0.trans s1).trans s2
    have hS2 := s2.seq hS1
    have nH1 := s0.free n1
    have nH2 := (s0.trans s1).free n2
    clear s0 s1 s2 hS0 hS1 hp1 n1 n2
    walk_at "rz"
    rename_i w0
    walk_at "nf"
    have hw : 0 ≤ w0 / 2 % 3 := by omega
    generalize w0 / 2 % 3 = w1 at hw ⊢
    refine ⟨fun σ' H' => ∃ f : F5, σ' = [some (.ref a), some (.int z), some (.int most), some (.ref p1), some (.ref p2), some (.int w1), none, none, none, none, none, none, none, none] ∧ f.Good ∧ f.now ≤ 1000000000 ∧ H' p1 = some (.lst f.v) ∧ H' p2 = some (.lst g.v) ∧ Same H H', ?_, ?_⟩
    · walk_at "rz"
      walk_at "ri" <;> intro c1
      · refine ⟨_, rfl, p1, _, 2, 2, rfl, rfl, hp1', rfl, ?_⟩
        refine ⟨_, rfl, p1, _, 3, 3, rfl, rfl, upd_same, rfl, ?_⟩
        refine ⟨⟨f.now, f.wait, 0, 0, f.fin⟩, rfl, ⟨hf.n, hf.w, ⟨Int.le_refl _, by show (0 : Int) ≤ 1000000000; decide⟩, ⟨Int.le_refl _, by show (0 : Int) ≤ 1000000000; decide⟩, hf.e⟩, hf1, ?_, ?_, (sA.mut nH1).mut nH1⟩
        · rw [upd_same]
          rfl
        · rw [upd_ne n12.symm, upd_ne n12.symm]
          exact hp2
      · exact ⟨f, rfl, hf, hf1, hp1', hp2, sA⟩
    clear sA hS2 hp1' hp2 hf1 hf
    rintro σ' H3 ⟨f, rfl, hf, hf1, hp1, hp2, sA⟩
    have hlf := len5_in hf z
    refine ⟨fun σ' H' => ∃ g : F5, σ' = [some (.ref a), some (.int z), some (.int most), some (.ref p1), some (.ref p2), some (.int w1), none, none, none, none, none, none, none, none] ∧ g.Good ∧ H' p1 = some (.lst f.v) ∧ H' p2 = some (.lst g.v) ∧ Same H H', ?_, ?_⟩
    · walk_at "rz"
      walk_at "ri" <;> intro c1
      · refine ⟨_, rfl, _, _, _, _, rfl, rfl, SqL.of hp1, rfl, _, rfl, _, _, _, _, rfl, rfl, SqL.of hp1, rfl, _, _, rfl, rfl, ?_⟩
        refine ⟨_, rfl, p2, _, 0, 0, rfl, rfl, hp2, rfl, ?_⟩
        refine ⟨_, rfl, p2, _, 1, 1, rfl, rfl, upd_same, rfl, ?_⟩
        refine ⟨⟨f.now + f.wait, 0, g.rise, g.fall, g.fin⟩, rfl, ⟨⟨Int.add_nonneg hf.n.1 hf.w.1, ?_⟩, ⟨Int.le_refl _, by show (0 : Int) ≤ 1000000000; decide⟩, hg.r, hg.a, hg.e⟩, ?_, ?_, (sA.mut nH2).mut nH2⟩
        · have := hf.w.2
          show f.now + f.wait ≤ 4000000000
          omega
        · rw [upd_ne n12, upd_ne n12]
          exact hp1
        · rw [upd_same]
          rfl
      · exact ⟨g, rfl, hg, hp1, hp2, sA⟩
    clear hg hg1 hp1 hp2 sA
    rintro σ' H4 ⟨g, rfl, hg, hp1, hp2, sA⟩
    refine ⟨fun σ' H' => ∃ g : F5, σ' = [some (.ref a), some (.int z), some (.int most), some (.ref p1), some (.ref p2), some (.int w1), none, none, none, none, none, none, none, none] ∧ g.Good ∧ H' p1 = some (.lst f.v) ∧ H' p2 = some (.lst g.v) ∧ Same H H', ?_, ?_⟩
    · walk_at "rz"
      walk_at "ri" <;> intro c1
      · refine ⟨_, rfl, _, _, _, _, rfl, rfl, SqL.of hp1, rfl, _, rfl, _, _, _, _, rfl, rfl, SqL.of hp1, rfl, _, _, rfl, rfl, ?_⟩
        refine ⟨_, rfl, _, rfl, p1, z, rfl, f, SqL.of hp1, _, _, rfl, rfl, ?_⟩
        refine ⟨_, rfl, p2, _, 0, 0, rfl, rfl, hp2, rfl, ?_⟩
        refine ⟨_, rfl, p2, _, 1, 1, rfl, rfl, upd_same, rfl, ?_⟩
        refine ⟨⟨f.now + f.wait + len5 f z, 0, g.rise, g.fall, g.fin⟩, rfl, ⟨⟨Int.add_nonneg (Int.add_nonneg hf.n.1 hf.w.1) hlf.1, ?_⟩, ⟨Int.le_refl _, by show (0 : Int) ≤ 1000000000; decide⟩, hg.r, hg.a, hg.e⟩, ?_, ?_, (sA.mut nH2).mut nH2⟩
        · have := hf.w.2
          show f.now + f.wait + len5 f z ≤ 4000000000
          omega
        · rw [upd_ne n12, upd_ne n12]
          exact hp1
        · rw [upd_same]
          rfl
      · exact ⟨g, rfl, hg, hp1, hp2, sA⟩
    clear hg hp1 hp2 sA
    rintro σ' H5 ⟨g, rfl, hg, hp1, hp2, sA⟩
    refine ⟨_, rfl, _, rfl, _, rfl, z, p1, p2, rfl, f, g, hz, hf, hg, SqL.of hp1, SqL.of hp2, fun p3 hp3 => ?_⟩
    have s6 := (Same.refl H5).new (o := HO.lst ([f.out, g.out, f.out + len5 f z, g.out + len5 g (start5 z f g)].map V.int)) hp3
    have q1 := s6 _ _ hp1
    have q2 := s6 _ _ hp2
    have sB := sA.trans s6
    have q3 : upd H5 p3 (HO.lst ([f.out, g.out, f.out + len5 f z, g.out + len5 g (start5 z f g)].map V.int)) p3 = some (HO.lst ([f.out, g.out, f.out + len5 f z, g.out + len5 g (start5 z f g)].map V.int)) := upd_same
    generalize upd H5 p3 (HO.lst ([f.out, g.out, f.out + len5 f z, g.out + len5 g (start5 z f g)].map V.int)) = H6 at q1 q2 q3 sB ⊢
    clear s6 hp1 hp2 sA hp3
    refine ⟨_, rfl, fun x dx hx hdx ne => ⟨x, dx, z, rfl, upd_same, fun H7 hc7 kp7 => ⟨rfl, ?_⟩⟩⟩
    have s7 := made_same hx hdx kp7
    have sC := sB.trans s7
    replace q1 := s7 _ _ q1
    replace q2 := s7 _ _ q2
    replace q3 := s7 _ _ q3
    clear sB s7 kp7
    obtain ⟨dx1, lf, ts, o1, _, _⟩ := hc7.ob
    refine ⟨_, rfl, x, dx1, _, rfl, o1, cf_no _ _ (by decide +kernel) (by decide +kernel), ?_⟩
    refine ⟨_, rfl, _, _, _, _, rfl, rfl, SqL.of q1, rfl, _, rfl, _, _, _, _, rfl, rfl, SqL.of q1, rfl, _, rfl, _, _, _, _, rfl, rfl, SqL.of q1, rfl, _, rfl, _, _, _, _, rfl, rfl, SqL.of q1, rfl, _, rfl, _, _, _, _, rfl, rfl, SqL.of q1, rfl, ?_⟩
    refine ⟨x, _, f.now, f.wait, f.rise, f.fall, f.fin, rfl, hc7, good0 hz, Nat.zero_le _, fun H8 hc8 kp8 => ?_⟩
    rw [tell1] at hc8
    have nl : ∀ (p : Addr) xs, H7 p = some (.lst xs) → H8 p = some (.lst xs) := fun p xs e => kp8 _ _ e (ne_of e o1 (by intro z; cases z))
    replace q1 := nl _ _ q1
    replace q2 := nl _ _ q2
    replace q3 := nl _ _ q3
    replace hS := hc7.list kp8 (sC.seq hS)
    clear nl sC kp8 hc7 o1
    obtain ⟨dx2, lf, ts, o2, _, _⟩ := hc8.ob
    refine ⟨_, rfl, x, dx2, _, rfl, o2, cf_no _ _ (by decide +kernel) (by decide +kernel), ?_⟩
    refine ⟨_, rfl, _, _, _, _, rfl, rfl, SqL.of q2, rfl, _, rfl, _, _, _, _, rfl, rfl, SqL.of q2, rfl, _, rfl, _, _, _, _, rfl, rfl, SqL.of q2, rfl, _, rfl, _, _, _, _, rfl, rfl, SqL.of q2, rfl, _, rfl, _, _, _, _, rfl, rfl, SqL.of q2, rfl, ?_⟩
    refine ⟨x, _, g.now, g.wait, g.rise, g.fall, g.fin, rfl, hc8, good1 hz hf, by show 1 ≤ 1000; decide, fun H9 hc9 kp9 => ?_⟩
    rw [tell2] at hc9
    have nl : ∀ (p : Addr) xs, H8 p = some (.lst xs) → H9 p = some (.lst xs) := fun p xs e => kp9 _ _ e (ne_of e o2 (by intro z; cases z))
    replace q1 := nl _ _ q1
    replace q2 := nl _ _ q2
    replace q3 := nl _ _ q3
    replace hS := hc8.list kp9 hS
    clear nl kp9 hc8 o2
    obtain ⟨dx3, lf, ts, o3, _, _⟩ := hc9.ob
    refine ⟨_, rfl, _, rfl, _, rfl, a, _, rfl, hS, fun p4 hp4 => ?_⟩
    obtain ⟨ms, em, _, _⟩ := cut_ints ns (some 12) (some 52)
    rw [em]
    refine ⟨p4, rfl, ⟨_, SqL.of upd_same⟩, ?_⟩
    have s10 := (Same.refl H9).new (o := HO.lst (ms.map V.int)) hp4
    replace q1 := s10 _ _ q1
    replace q2 := s10 _ _ q2
    replace q3 := s10 _ _ q3
    replace o3 := s10 _ _ o3
    replace hc9 := hc9.same s10
    have q4 : upd H9 p4 (HO.lst (ms.map V.int)) p4 = some (HO.lst (ms.map V.int)) := upd_same
    generalize upd H9 p4 (HO.lst (ms.map V.int)) = H10 at q1 q2 q3 q4 o3 hc9 ⊢
    clear s10 hp4 hS
    refine for_list (K := K) (a := p4) (xs := ms.map V.int) (fun i σ' H' => ∃ v1 v2 v3 v4, σ' = [some (.ref a), some (.int z), some (.int most), some (.ref p1), some (.ref p2), some (.int w1), some (.ref p3), some (.ref x), v1, v2, v3, v4, none, none] ∧ Same H10 H')
      ⟨_, _, _, _, rfl, Same.refl _⟩ (fun i σ' H' _ ⟨_, _, _, _, _, s⟩ => s.seq (SqL.of q4)) ?_ ?_
    · rintro i y σ' H' hi ⟨v1, v2, v3, v4, rfl, s⟩
      obtain ⟨c, rfl, _, _⟩ := int_at hi
      refine ⟨_, rfl, _, rfl, c, p3, rfl, _, _, _, _, SqL.of (s _ _ q3), fun t b u H11 b0 b1 s11 hu => ?_⟩
      have s12 := s.trans s11
      refine ⟨u, _, rfl, SqT.of hu, rfl, ?_⟩
      walk_at "rds"
      refine ⟨x, dx3, _, rfl, s12 _ _ o3, cf_no _ _ (by decide +kernel) (by decide +kernel), _, rfl, _, rfl, x, _, t, b, rfl, hc9.same s12, good2 hz hf hg, b0, by omega, ?_⟩
      rw [pos2]
      walk_at "rds"
      refine ⟨f, g, hz, hf, hg, SqL.of (s12 _ _ q1), SqL.of (s12 _ _ q2), b0, b1, rfl, _, rfl, iteNVF rfl ?_⟩
      exact ⟨_, _, _, _, rfl, s12⟩
    rintro σ' H11 ⟨v1, v2, v3, v4, rfl, s11⟩
    replace o3 := s11 _ _ o3
    replace q2 := s11 _ _ q2
    replace q3 := s11 _ _ q3
    replace hc9 := hc9.same s11
    refine ⟨_, rfl, x, dx3, _, rfl, o3, cf_no _ _ (by decide +kernel) (by decide +kernel), x, _, rfl, hc9, fun H12 s12 => ?_⟩
    replace o3 := s12 _ _ o3
    replace q2 := s12 _ _ q2
    replace q3 := s12 _ _ q3
    replace hc9 := hc9.same s12
    refine ⟨_, rfl, x, dx3, _, rfl, o3, cf_no _ _ (by decide +kernel) (by decide +kernel), x, _, rfl, hc9, fun H13 s13 => ?_⟩
    replace q2 := s13 _ _ q2
    replace q3 := s13 _ _ q3
    rw [aim2, still2]
    walk_at "rds"
    refine ⟨_, _, _, _, rfl, rfl, SqL.of q2, rfl, ?_⟩
    walk_at "rds"
    refine iteVT rfl ?_
    walk_at "rds"
    refine ⟨_, _, _, _, rfl, rfl, SqL.of q3, rfl, ?_⟩
    walk_at "rds"
    exact qT (Q := Q) rfl (k _)
theorem law_facts {fa : Addr} (T : Txt K mg) (hfa : mg "law" = some (.ref fa)) :
    ∃ fd : FuncData, (∀ (s : Shared) (v : Value), BindsTo s fd ⟨[v], []⟩ [("_law_script", v)]) ∧ ∀ base : Heap, K.In base → base.Ns mainGlobals mg → FnOk P w K mg base CX0 6 fa fd ["_law_script"] (spLaw K) := by
  have e := hfa.symm.trans (glo_law T)
  cases e
  obtain ⟨fd, _, F⟩ := ok_law (P := P) (w := w) (base := default) T
  refine ⟨fd, fun s v => FunD.bindsA (ps := ["_law_script"]) F (fun _ _ _ _ _ _ us hl => match us, hl with | [_], _ => rfl) s [v] rfl, fun base _ _ => ?_⟩
  obtain ⟨fd', G, F'⟩ := ok_law (P := P) (w := w) (base := base) T
  have q : fd' = fd := F'.fd_eq F
  rw [← q]
  exact G


end

abbrev R : PySem.W.OpenRow := PySem.W.OpenLaw.row PySem.Challenge.rw_lampcues_k05_two_fades
abbrev hk : PySem.W.Hook := He.hookD 6 fa fn
def ob (s : PySem.W.SharedT) : He.AlD := He.obsDG 6 fa fn (HandSHeadRun.getT s)
theorem ob_eq (s : PySem.W.SharedT) : ob s = hk.obs s.abs := He.obsDG_eq (HandSHeadRun.getT_eq s)
def loose0 : List PySem.Str := ["stand", "Course", "_law_cell_at", "_law_whole", "_law_gone", "_law_spot", "_law_fade", "_law_length", "_law_start", "_law_due", "_law_ends"]
def loose : List PySem.Str := loose0
theorem run (w : World) : HandSHeadRun.RunEq R (PySem.W.view R.prog [13]) hk ob 4000 loose w := by
  intro os
  kernel_rfl
end G94
open PySem PySem.W PySem.Calls PyProof.Rows
theorem PySem.Challenge.cw_lampcues_k05_two_fades_holds : PySem.Challenge.rw_lampcues_k05_two_fades.Holds := by
  w_on; o_law
  refine HandSHeadRun.head_any (r := OpenLaw.row PySem.Challenge.rw_lampcues_k05_two_fades) (q := view (OpenLaw.row PySem.Challenge.rw_lampcues_k05_two_fades).prog [13]) (H := G94.hk) (ob := G94.ob) (M := 4000) (loose := G94.loose) (d := HandSHeadRun.topDef (OpenLaw.row PySem.Challenge.rw_lampcues_k05_two_fades).prog 13) (kwd := []) G94.ob_eq
    (by kernel_rfl) (fun s => by kernel_rfl) G94.run (by kernel_rfl) (by kernel_rfl) (by kernel_rfl) (by rfl) (by first | assumption | decide +kernel) (by decide +kernel) ⟨rfl, rfl, rfl, rfl, rfl, by decide +kernel⟩ ?hw ?hc
  case hw => w_witness2
  case hc =>
    refine L2.walk_ofEB (l := PySem.Challenge.rw_lampcues_k05_two_fades) (n := 63) (k := 6) (x := "_law_script") (CX := L2.CX0) rfl (by decide) (by kernel_rfl) ⟨rfl, by decide, by decide⟩ ?F (fun _ _ _ _ z => z)
    intro w mg fa h Y G hmg0
    obtain ⟨K, KX, c⟩ := Y
    have hmg : mg ("law" : PySem.Str) = some (.ref fa) := by
      have e : (HandSHeadRun.topDef (OpenLaw.row PySem.Challenge.rw_lampcues_k05_two_fades).prog 13).name = ("law" : PySem.Str) := by kernel_rfl
      rw [← e]
      exact hmg0
    obtain ⟨fd, hb, hF⟩ := G94.law_facts (P := (PySem.Challenge.rw_lampcues_k05_two_fades).prog) (w := w) ⟨c, h, KX, G⟩ hmg
    exact ⟨K, fd, G94.spLaw K, KX, hb, fun H a ns hl hb hH hS => ⟨a, ns, rfl, hS, hl, hb, hH, fun _ => rfl⟩, hF⟩
