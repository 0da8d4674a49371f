import PyProof.Rows.All
import Wide.All
import OpenK.AllK
import Wide.FinOn
import KE.KStateDown
import HandS.ForMost
import HandS.Exc
import HandS.TryOnly
import HandS.ExcOwn
import HandS.WordsExc
import HandS.Defaults
import HandS.Wide
import HandS.IsInst
import HandS.EndBits
import HandS.TupLe
import HandS.Rev
import HandS.Codes
import HandS.MakeKw
import HandS.Head0
import HandS.Head1
import HandS.Head2
import HandS.HeadEnd
import HandS.HeadHook1
import HandS.HeadHook2
import PySem.Challenge.RW_lampcues_k07_whole_past_stays
set_option Elab.async false
set_option linter.all false
set_option maxRecDepth 100000
set_option maxHeartbeats 4000000
namespace L2
open PySem PySem.Spec PyProof.Rows
/-! ### own rules, own words -/
/-- a law's end by facts, with the script's bits and the only tracked thing told -/
theorem walk_ofEB {l : PySem.W.OpenLaw} {n k : Nat} {q : Program} {loose : List Str} {XP : (Str → Option Value) → Heap → Prop} {YP : World → Heap → Prop} {d : DefRec} {CX : CXT} {x : Str}
    (hn : l.most = some n) (hn2 : n ≤ sizeLine) (hdf : d.params.defaults = []) (hr : Room k callerA)
    (F : ∀ (w : World) (mg : Str → Option Value) (fa : Addr) (h : Heap), YP w h → h.Ns mainGlobals mg → mg d.name = some (.ref fa) →
      ∃ (K : PySem.W.Frag) (fd : FuncData) (sp : Sp), K.In h ∧ (∀ (s : Shared) (u : Value), BindsTo s fd ⟨[u], []⟩ [(x, u)]) ∧
        (∀ (H : Hp) (a : Addr) (ns : List Int), ns.length ≤ n → (∀ z ∈ ns, Builtin.Int.intBits z ≤ 1048576) → Only H → SqL K H a (ns.map V.int) → sp [.ref a] H (fun v _ => v = .bl true) fun _ _ _ => False) ∧
        ∀ base : Heap, K.In base → base.Ns mainGlobals mg → FnOk l.prog w K mg base CX k fa fd [x] sp)
    (hCX : ∀ (H : Hp) (s : Shared) (e : Value) (s' : Shared), CX [] H s (fun _ _ _ => False) e s' → False) :
    PySem.W.WalkO q loose XP YP l.row.toRowW d [] (fun f vs => PySem.call f vs) := by
  refine Att.attach_callB hn hdf fun w s₀ s₁ mg mb fa o pm cd doc a vs ns G Y ho hd hcd hmg hobj hints hlen hbits hg => ?_
  obtain ⟨K, fd, sp, KX, hb, hsp, hF⟩ := F w mg fa _ Y G.T.g hmg
  exact law_call KX G.T.g G.T.b G.T.builtins G.T.nolimit hg hobj hints (Nat.le_trans hlen hn2) hr hF hb (fun H hO hS => hsp H a ns hlen hbits hO hS) fun H e s' => hCX H s₁ e s'
section
variable {X : Cx}
/-- a written power -/
theorem pe_powC {i j v : Int} {a b : Nat} {p1 p2 pos : Pos} (e : i ^ j.toNat = v) (h : 0 ≤ j ∧ j ≤ 1000000 ∧ i.natAbs < 2 ^ 64) : PE X (.BinOp (.Constant (.int i) a p1) .Pow (.Constant (.int j) b p2) pos) (tC (.int v)) := by
  subst e
  refine ⟨fun pins s σ H Q I q => ?_⟩
  exact (pe_op (X := X) op_pow pe_int pe_int).run pins s σ H Q I ⟨i, j, rfl, rfl, h, q⟩
/-- a written negative number -/
theorem pe_negC {i : Int} {a : Nat} {p1 pos : Pos} : PE X (.UnaryOp .USub (.Constant (.int i) a p1) pos) (tC (.int (-i))) := by
  refine ⟨fun pins s σ H Q I q => ?_⟩
  exact (pe_un (X := X) un_neg pe_int).run pins s σ H Q I ⟨i, rfl, q⟩
end
theorem iteD {c A B : Prop} [Decidable c] (h1 : c → A) (h2 : ¬ c → B) : if decide c = true then A else B := by
  by_cases h : c
  · rw [if_pos (decide_eq_true h)]
    exact h1 h
  · rw [if_neg (by rw [decide_eq_false h]; exact Bool.false_ne_true)]
    exact h2 h
theorem iteND {c A B : Prop} [Decidable c] (h1 : ¬ c → A) (h2 : c → B) : if (!decide c) = true then A else B := by
  by_cases h : c
  · rw [decide_eq_true h]
    exact iteF (h2 h)
  · rw [decide_eq_false h]
    exact iteT (h1 h)
theorem iteV {a b : Int} {A B : Prop} (h1 : a = b → A) (h2 : a ≠ b → B) : if decide (V.int a = V.int b) = true then A else B :=
  iteD (fun e => h1 (V.int.inj e)) fun e => h2 fun q => e (congrArg V.int q)
theorem iteNV {a b : Int} {A B : Prop} (h1 : a ≠ b → A) (h2 : a = b → B) : if (!decide (V.int a = V.int b)) = true then A else B :=
  iteND (fun e => h1 fun q => e (congrArg V.int q)) fun e => h2 (V.int.inj e)
theorem iteB {b : Bool} {A B : Prop} (h1 : b = true → A) (h2 : b = false → B) : if b = true then A else B := by
  cases b with
  | true => exact iteT (h1 rfl)
  | false => exact iteF (h2 rfl)
theorem iteDT {c A B : Prop} [Decidable c] (h : c) (h1 : A) : if decide c = true then A else B := iteD (fun _ => h1) fun q => absurd h q
theorem iteDF {c A B : Prop} [Decidable c] (h : ¬ c) (h1 : B) : if decide c = true then A else B := iteD (fun q => absurd q h) fun _ => h1
theorem iteVT {a b : Int} {A B : Prop} (h : a = b) (h1 : A) : if decide (V.int a = V.int b) = true then A else B := iteV (fun _ => h1) fun q => absurd h q
theorem iteVF {a b : Int} {A B : Prop} (h : a ≠ b) (h1 : B) : if decide (V.int a = V.int b) = true then A else B := iteV (fun q => absurd q h) fun _ => h1
theorem iteNVF {a b : Int} {A B : Prop} (h : a = b) (h1 : B) : if (!decide (V.int a = V.int b)) = true then A else B := iteNV (fun q => absurd h q) fun _ => h1
theorem yes_lc {σ : St} {H : Hp} {A B : Hp → Prop} (h : A H) : tYes σ H (fun b H3 => if b = true then A H3 else B H3) := by
  show if true = true then A H else B H
  rw [if_pos rfl]
  exact h
theorem qT {Q : VK} {H : Hp} {c : Prop} [Decidable c] (h : c) (k : Q (.bl true) H) : Q (.bl (decide c)) H := by
  rw [decide_eq_true h]
  exact k
theorem qF {Q : VK} {H : Hp} {c : Prop} [Decidable c] (h : ¬ c) (k : Q (.bl false) H) : Q (.bl (decide c)) H := by
  rw [decide_eq_false h]
  exact k
theorem cut_ints (ns : List Int) (lo hi : Option Int) : ∃ ms : List Int, cutV (ns.map V.int) lo hi = ms.map V.int ∧ ms.length ≤ ns.length ∧ ∀ z ∈ ms, z ∈ ns := by
  refine ⟨(ns.drop (HT.sIx (ns.map V.int).length 0 lo)).take (HT.sIx (ns.map V.int).length (ns.map V.int).length hi - HT.sIx (ns.map V.int).length 0 lo), ?_, ?_, ?_⟩
  · unfold cutV
    rw [List.map_take, List.map_drop]
  · rw [List.length_take, List.length_drop]
    omega
  · intro z hz
    exact List.mem_of_mem_drop (List.mem_of_mem_take hz)
theorem int_at {ns : List Int} {i : Nat} {y : V} (h : (ns.map V.int)[i]? = some y) : ∃ z, y = V.int z ∧ ns[i]? = some z ∧ i < ns.length := by
  rw [List.getElem?_map] at h
  cases e : ns[i]? with
  | none =>
    rw [e] at h
    cases h
  | some z =>
    rw [e] at h
    exact ⟨z, (Option.some.inj h).symm, rfl, (List.getElem?_eq_some_iff.mp e).1⟩
theorem atI_lt {xs : List V} {k : Int} (h0 : 0 ≤ k) (h1 : k < xs.length) : ∃ v, atI xs k = some v ∧ xs[k.toNat]? = some v := by
  have hl : k.toNat < xs.length := by omega
  refine ⟨xs[k.toNat], ?_, List.getElem?_eq_getElem hl⟩
  obtain ⟨n, rfl⟩ : ∃ n : Nat, k = n := ⟨k.toNat, by omega⟩
  exact atI_nat (List.getElem?_eq_getElem hl)
theorem at2 {a b k : Int} (h0 : 0 ≤ k) (h1 : k < 2) : ∃ v, atI [V.int a, V.int b] k = some (V.int v) ∧ ((k = 0 ∧ v = a) ∨ (k = 1 ∧ v = b)) := by
  rcases (by omega : k = 0 ∨ k = 1) with rfl | rfl
  · exact ⟨a, rfl, .inl ⟨rfl, rfl⟩⟩
  · exact ⟨b, rfl, .inr ⟨rfl, rfl⟩⟩
theorem at3 {a b c k : Int} (h0 : 0 ≤ k) (h1 : k < 3) : ∃ v, atI [V.int a, V.int b, V.int c] k = some (V.int v) ∧ ((k = 0 ∧ v = a) ∨ (k = 1 ∧ v = b) ∨ (k = 2 ∧ v = c)) := by
  rcases (by omega : k = 0 ∨ k = 1 ∨ k = 2) with rfl | rfl | rfl
  · exact ⟨a, rfl, .inl ⟨rfl, rfl⟩⟩
  · exact ⟨b, rfl, .inr (.inl ⟨rfl, rfl⟩)⟩
  · exact ⟨c, rfl, .inr (.inr ⟨rfl, rfl⟩)⟩
/-- a call that writes all parameters, the last ones by name -/
theorem kb_all {K : PySem.W.Frag} {x qual : Str} {params : Arguments} {body : List Stmt} {scope : Scope} {dvs : List V} {kws : List (Str × V)} {f : Addr} {fd : FuncData} {ps : List Str} (F : FunD K x qual params body scope dvs kws f fd) (n : Nat) (ks : List Str) (hd : dvs ≠ [])
    (h : ∀ (T : Addr) (kV doc pm : Value) (an : Option Addr) (cdv ct : Value) (us its ws : List Value), us.length = n → its.length = dvs.length → ws.length = ks.length →
      ∃ k, bindArgs (PySem.W.fnOf x qual params body scope (.ref T) kV doc pm an cdv ct) ⟨us, ks.zip ws⟩ = seqItems? (.ref T) >>= k ∧ k (some its.toArray) = pure (ps.zip (us ++ ws))) : KBn K fd ps n ks (fun us ws => us ++ ws) (fun vs zs => vs ++ zs) := by
  obtain ⟨oc, od, dV, kV, doc, pm, an, cdv, ct, osl, rfl, lk, hcd, hD, _⟩ := F.ex
  rcases hD with ⟨e, _⟩ | ⟨_, T, o, its, m, rfl, lT, oT, rT⟩
  · exact absurd e hd
  · refine ⟨fun s us ws X h1 h2 => ?_, fun r1 r2 => r1.append r2⟩
    obtain ⟨k, e1, e2⟩ := h T kV doc pm an cdv ct us its ws h1 rT.length.symm h2
    refine BindsTo.of_looks fun M => ?_
    rw [e1]
    exact looks_items X lT oT (.of_pure e2)
theorem FunD.fd_eq {K : PySem.W.Frag} {x qual : Str} {params : Arguments} {body : List Stmt} {scope : Scope} {dvs : List V} {kws : List (Str × V)} {f : Addr} {fd fd' : FuncData} (F : FunD K x qual params body scope dvs kws f fd) (F' : FunD K x qual params body scope dvs kws f fd') : fd = fd' := by
  obtain ⟨_, _, _, _, _, _, _, _, _, _, _, l, _⟩ := F.ex
  obtain ⟨_, _, _, _, _, _, _, _, _, _, _, l', _⟩ := F'.ex
  rw [l] at l'
  simp only [Option.some.injEq, Obj.mk.injEq, Data.func.injEq] at l'
  exact l'.2.2.1
theorem at4 {a b c d k : Int} (h0 : 0 ≤ k) (h1 : k < 4) : ∃ v, atI ([a, b, c, d].map V.int) k = some (V.int v) := by
  rcases (by omega : k = 0 ∨ k = 1 ∨ k = 2 ∨ k = 3) with rfl | rfl | rfl | rfl
  · exact ⟨a, rfl⟩
  · exact ⟨b, rfl⟩
  · exact ⟨c, rfl⟩
  · exact ⟨d, rfl⟩
theorem ints_last {es : List Int} {v : Int} (h : es.getLast? = some v) : atI (es.map V.int) (-1) = some (V.int v) := by
  obtain ⟨r, e⟩ := List.getLast?_eq_some_iff.mp h
  rw [e, List.map_append]
  exact atI_last _ _
theorem small_size {n : Nat} (h : n ≤ 100000) : n ≤ sizeLine := Nat.le_trans h (by decide)
theorem Same.new {H H' : Hp} {p : Addr} {o : HO} (e : Same H H') (h : H' p = none) : Same H (upd H' p o) := fun a u q => by
  rw [upd_ne (ne_of_none (e a u q) h)]
  exact e a u q
theorem Same.mut {H H' : Hp} {p : Addr} {o : HO} (e : Same H H') (h : H p = none) : Same H (upd H' p o) := fun a u q => by
  rw [upd_ne (ne_of_none q h)]
  exact e a u q
/-- o.m(e, .., k = v, ..) -/
def tMethN (C : Addr) (m : Str) (n j : Nat) (sp : Sp) (gV : List V → List V → List V) (E : XK) (ta : TE) (t tk : TA) : TE := fun σ H Q => ta σ H fun x H1 => ∃ a dx fs, x = .ref a ∧ H1 a = some (.ins C dx fs) ∧ fs.lookup m = none ∧
  t σ H1 fun vs H2 => tk σ H2 fun zs H3 => vs.length = n ∧ zs.length = j ∧ sp (gV (x :: vs) zs) H3 Q E
theorem pe_methN {X : Cx} {CX : CXT} {k n : Nat} {f C : Addr} {fd : FuncData} {ps ks : List Str} {sp : Sp} {E : XK} {m : Str} {o e : Expr} {es : List Expr} {kws : List Keyword} {apos pos : Pos} {ta : TE} {t tk : TA} {g : List Value → List Value → List Value} {gV : List V → List V → List V} {pl : Sem Bool}
    (he : PE X o ta) (c : Cls X.K C) (hm : Meth X.K C m f) (F : FnOk X.prog X.w X.K X.mg X.base CX k f fd ps sp) (hr : Room k X.A) (hb : KBn X.K fd ps (n + 1) ks g gV) (hx : Passes CX X E) (ha : PA X (e :: es) t) (hkw : PK X kws tk)
    (hall : (backToKw pos (keywordEach kws X.env)).all (·.1.isSome) = true := by rfl)
    (hks : (backToKw pos (keywordEach kws X.env)).filterMap (·.1) = ks := by rfl)
    (hst : starEach (e :: es) X.env = (false, eval e X.env) :: starEach es X.env := by rfl)
    (hpl : ((backTo pos (starEach (e :: es) X.env)).any (·.1) || (backToKw pos (keywordEach kws X.env)).any (·.1.isNone)) = false := by rfl)
    (ht : eval (.Call (.Attribute o m apos) (e :: es) kws pos) X.env = (do
      let ov ← eval o X.env
      standAt apos.atName
      let (f, first) ← holding [ov] (getMethod ov m pl)
      callWith pos f first (backTo pos (starEach (e :: es) X.env)) (backToKw pos (keywordEach kws X.env))) := by rfl) :
    PE X (.Call (.Attribute o m apos) (e :: es) kws pos) (tMethN C m n ks.length sp gV E ta t tk) := by
  constructor
  intro pins s σ H Q I hh
  apply PySem.W.methodCall_KW (pl := pl) (he := ht)
  apply thn (he.run pins s σ H _ I hh)
  rintro u s1 ⟨x, H1, I1, rx, a, dx, fs, rfl, ea, l, q⟩
  obtain rfl : u = Value.ref a := rx
  apply getmeth_ok I1 ea c hm l
  apply PySem.W.callWith_KW (first := [.ref a]) (h₀ := X.base) I.ok.mod.kin hm.kp hall (hplain := hpl) (he := hst)
  apply thn (ha.run pos pins s1 σ H1 _ I1 q)
  rintro us s2 ⟨vs, H2, I2, r, q2⟩
  apply thn (hkw.run pos pins s2 σ H2 _ I2 q2)
  rintro ws s3 ⟨zs, H3, I3, rz, l1, l2, q3⟩
  refine ⟨I3.kIn, ?_⟩
  rw [hks]
  exact run_fnN (us := .ref a :: us) (vs := .ref a :: vs) F hr hb hx I3 (.cons rfl r) rz (congrArg Nat.succ l1) l2 q3
end L2
/-! ### the words of a reading: sd a side condition, rd one step, rds as many as go by themselves, ri a test -/
local macro_rules | `(tactic| walk_at "sd") => `(tactic| first
  | omega
  | (show (0 : Int) < _; omega)
  | (show (0 : Int) ≤ _; omega)
  | exact .inl ⟨by omega, by omega⟩
  | exact .inr ⟨by omega, by omega⟩
  | exact ⟨by decide, by decide⟩
  | exact ⟨by omega, by omega⟩
  | exact L2.small_size (Nat.le_of_ble_eq_true rfl)
  | assumption
  | exact ⟨_, by assumption⟩)
local macro_rules | `(tactic| walk_at "rd") => `(tactic| first
  | refine ⟨_, rfl, ?_⟩
  | refine ⟨_, _, rfl, rfl, ?_⟩
  | refine ⟨_, _, rfl, ?_⟩
  | refine ⟨_, _, _, rfl, ?_⟩
  | refine ⟨_, _, _, _, rfl, ?_⟩
  | refine ⟨_, _, _, _, _, rfl, ?_⟩
  | refine ⟨_, _, _, _, _, _, rfl, ?_⟩
  | refine ⟨rfl, ?_⟩
  | refine L2.iteF ?_
  | refine L2.iteT ?_
  | refine And.intro (by walk_at "sd") ?_
  | refine ⟨_, _, _, _, true, rfl, .ty _, .base (.int _), L2.kit_ty (by decide +kernel), ?_⟩
  | refine ⟨_, _, _, _, false, rfl, .ty _, .base (.int _), L2.kit_ty (by decide +kernel), ?_⟩)
local macro_rules | `(tactic| walk_at "rds") => `(tactic| repeat walk_at "rd")
local macro_rules | `(tactic| walk_at "rz") => `(tactic| repeat first
  | walk_at "rd"
  | refine fun (_ : Int) => ?_
  | refine fun (_ : (_ : Int) ≤ _) => ?_
  | refine fun (_ : (_ : Int) < _) => ?_)
local macro_rules | `(tactic| walk_at "ri") => `(tactic| first
  | refine L2.iteV ?_ ?_
  | refine L2.iteNV ?_ ?_
  | refine L2.iteD ?_ ?_
  | refine L2.iteND ?_ ?_
  | refine L2.iteB ?_ ?_)
local macro_rules | `(tactic| walk_at "nf") => `(tactic| try dsimp only [L2.start, List.set_cons_zero, List.set_cons_succ])
local macro_rules | `(tactic| walk_at "g94len") => `(tactic| (intro vs H Q E h; first
  | (obtain ⟨e, _⟩ := h; exact congrArg List.length e)
  | (obtain ⟨_, e, _⟩ := h; exact congrArg List.length e)
  | (obtain ⟨_, _, e, _⟩ := h; exact congrArg List.length e)
  | (obtain ⟨_, _, _, e, _⟩ := h; exact congrArg List.length e)
  | (obtain ⟨_, _, _, _, e, _⟩ := h; exact congrArg List.length e)
  | (obtain ⟨_, _, _, _, _, e, _⟩ := h; exact congrArg List.length e)
  | (obtain ⟨_, _, _, _, _, _, e, _⟩ := h; exact congrArg List.length e)
  | (obtain ⟨_, _, _, _, _, _, _, e, _⟩ := h; exact congrArg List.length e)
  | (obtain ⟨_, _, _, _, _, _, _, _, e, _⟩ := h; exact congrArg List.length e)
  | (obtain ⟨_, _, _, _, _, _, _, _, _, e, _⟩ := h; exact congrArg List.length e)
  | (obtain ⟨_, _, _, _, _, _, _, _, _, _, e, _⟩ := h; exact congrArg List.length e)))
local macro_rules | `(tactic| walk_at "g94tr") => `(tactic| (set_option pp.deepTerms false in set_option pp.deepTerms.threshold 8 in trace_state))
namespace G94
open PySem PySem.Spec PyProof.Rows L2
def top (i : Nat) : Stmt := PySem.Challenge.pw_lampcues_k07_whole_past_stays.main.body.getD i (.Pass ⟨0, 0, 0, 0⟩)
abbrev s_stand : Stmt := top 1
theorem sc_stand : FnScope ["start", "end", "length", "top", "bottom", "steps"] ["start", "end", "length", "top", "bottom"] (defScope s_stand) := ⟨rfl, rfl, rfl, by decide +kernel, rfl, by decide +kernel, by decide +kernel⟩
abbrev s_Course_init : Stmt := inClass (top 2) 0
theorem sc_Course_init : FnScope ["self", "worth"] ["self", "worth"] (defScope s_Course_init) := ⟨rfl, rfl, rfl, by decide +kernel, rfl, by decide +kernel, by decide +kernel⟩
abbrev s_Course_at : Stmt := inClass (top 2) 2
theorem sc_Course_at : FnScope ["self", "top", "bottom", "out", "start", "end", "length"] ["self", "top", "bottom"] (defScope s_Course_at) := ⟨rfl, rfl, rfl, by decide +kernel, rfl, by decide +kernel, by decide +kernel⟩
abbrev s_Course_tell : Stmt := inClass (top 2) 1
theorem sc_Course_tell : FnScope ["self", "now", "wait", "rise", "fall", "end", "out", "start", "length", "fade"] ["self", "now", "wait", "rise", "fall", "end"] (defScope s_Course_tell) := ⟨rfl, rfl, rfl, by decide +kernel, rfl, by decide +kernel, by decide +kernel⟩
abbrev s_Course_aim : Stmt := inClass (top 2) 3
theorem sc_Course_aim : FnScope ["self"] ["self"] (defScope s_Course_aim) := ⟨rfl, rfl, rfl, by decide +kernel, rfl, by decide +kernel, by decide +kernel⟩
abbrev s_Course_still : Stmt := inClass (top 2) 4
theorem sc_Course_still : FnScope ["self"] ["self"] (defScope s_Course_still) := ⟨rfl, rfl, rfl, by decide +kernel, rfl, by decide +kernel, by decide +kernel⟩
abbrev s_l_cell_at : Stmt := top 4
theorem sc_l_cell_at : FnScope ["_law_script", "_law_k"] ["_law_script", "_law_k"] (defScope s_l_cell_at) := ⟨rfl, rfl, rfl, by decide +kernel, rfl, by decide +kernel, by decide +kernel⟩
abbrev s_l_whole : Stmt := top 5
theorem sc_l_whole : FnScope ["_law_found"] ["_law_found"] (defScope s_l_whole) := ⟨rfl, rfl, rfl, by decide +kernel, rfl, by decide +kernel, by decide +kernel⟩
abbrev s_l_draw : Stmt := top 6
theorem sc_l_draw : FnScope ["_law_cell", "_law_place", "_law_own", "_law_number"] ["_law_cell", "_law_place"] (defScope s_l_draw) := ⟨rfl, rfl, rfl, by decide +kernel, rfl, by decide +kernel, by decide +kernel⟩
abbrev s_l_far : Stmt := top 7
theorem sc_l_far : FnScope ["_law_cell", "_law_place", "_law_number"] ["_law_cell", "_law_place"] (defScope s_l_far) := ⟨rfl, rfl, rfl, by decide +kernel, rfl, by decide +kernel, by decide +kernel⟩
abbrev s_l_held : Stmt := top 8
theorem sc_l_held : FnScope ["_law_course", "_law_now", "_law_cell", "_law_ends", "_law_held_here", "_law_bottom", "_law_some", "_law_k", "_law_top", "_law_found"] ["_law_course", "_law_now", "_law_cell", "_law_ends"] (defScope s_l_held) := ⟨rfl, rfl, rfl, by decide +kernel, rfl, by decide +kernel, by decide +kernel⟩
abbrev s_law : Stmt := top 9
theorem sc_law : FnScope ["_law_script", "_law_wide", "_law_most", "_law_first", "_law_ends", "_law_course", "_law_kept", "_law_now", "_law_cell", "_law_held_here", "_law_end", "_law_times", "_law_top", "_law_bottom", "_law_found", "_law_still", "_law_k"] ["_law_script"] (defScope s_law) := ⟨rfl, rfl, rfl, by decide +kernel, rfl, by decide +kernel, by decide +kernel⟩
def d_stand : He.DefD := ⟨("stand", none), "stand", "stand", defArgs s_stand, defBody s_stand, defScope s_stand, [.int 1], []⟩
def d_Course_init : He.DefD := ⟨("Course", some "__init__"), "__init__", "Course.__init__", defArgs s_Course_init, defBody s_Course_init, defScope s_Course_init, [.int 0], []⟩
def d_Course_at : He.DefD := ⟨("Course", some "at"), "at", "Course.at", defArgs s_Course_at, defBody s_Course_at, defScope s_Course_at, [.int 1], []⟩
def d_Course_tell : He.DefD := ⟨("Course", some "tell"), "tell", "Course.tell", defArgs s_Course_tell, defBody s_Course_tell, defScope s_Course_tell, [], []⟩
def d_Course_aim : He.DefD := ⟨("Course", some "aim"), "aim", "Course.aim", defArgs s_Course_aim, defBody s_Course_aim, defScope s_Course_aim, [], []⟩
def d_Course_still : He.DefD := ⟨("Course", some "still"), "still", "Course.still", defArgs s_Course_still, defBody s_Course_still, defScope s_Course_still, [], []⟩
def d_l_cell_at : He.DefD := ⟨("_law_cell_at", none), "_law_cell_at", "_law_cell_at", defArgs s_l_cell_at, defBody s_l_cell_at, defScope s_l_cell_at, [], []⟩
def d_l_whole : He.DefD := ⟨("_law_whole", none), "_law_whole", "_law_whole", defArgs s_l_whole, defBody s_l_whole, defScope s_l_whole, [], []⟩
def d_l_draw : He.DefD := ⟨("_law_draw", none), "_law_draw", "_law_draw", defArgs s_l_draw, defBody s_l_draw, defScope s_l_draw, [], []⟩
def d_l_far : He.DefD := ⟨("_law_far", none), "_law_far", "_law_far", defArgs s_l_far, defBody s_l_far, defScope s_l_far, [], []⟩
def d_l_held : He.DefD := ⟨("_law_held", none), "_law_held", "_law_held", defArgs s_l_held, defBody s_l_held, defScope s_l_held, [], []⟩
def d_law : He.DefD := ⟨("law", none), "law", "law", defArgs s_law, defBody s_law, defScope s_law, [], []⟩
def fn : List He.DefD := [d_stand, d_Course_init, d_Course_at, d_Course_tell, d_Course_aim, d_Course_still, d_l_cell_at, d_l_whole, d_l_draw, d_l_far, d_l_held, d_law]
def fa : List He.Fa := [.glo "stand", .glo "_law_cell_at", .glo "_law_whole", .glo "_law_draw", .glo "_law_far", .glo "_law_held", .glo "law", .glo "Course", .free "len", .free "abs", .free "max", .free "sum", .free "isinstance", .free "int", .free "bool", .free "min", .free "reversed", .free "range", .cls "Course", .mkr "Course", .noat "Course" "first", .noat "Course" "fades", .meth "Course" "tell", .meth "Course" "at", .meth "Course" "aim", .meth "Course" "still"]
/-- what the top leaves -/
structure Txt (K : PySem.W.Frag) (mg : Str → Option Value) : Prop where
  c : He.SaysD fa fn K
  hp : ∃ h : Heap, K.In h ∧ h.Ns mainGlobals mg
section
variable {K : PySem.W.Frag} {mg : Str → Option Value}
theorem glo_stand (T : Txt K mg) : mg "stand" = some (.ref (He.ga K "stand")) := by
  obtain ⟨h, X, G⟩ := T.hp
  exact He.glo_ok X G (T.c.fact 0 rfl)
theorem glo__law_cell_at (T : Txt K mg) : mg "_law_cell_at" = some (.ref (He.ga K "_law_cell_at")) := by
  obtain ⟨h, X, G⟩ := T.hp
  exact He.glo_ok X G (T.c.fact 1 rfl)
theorem glo__law_whole (T : Txt K mg) : mg "_law_whole" = some (.ref (He.ga K "_law_whole")) := by
  obtain ⟨h, X, G⟩ := T.hp
  exact He.glo_ok X G (T.c.fact 2 rfl)
theorem glo__law_draw (T : Txt K mg) : mg "_law_draw" = some (.ref (He.ga K "_law_draw")) := by
  obtain ⟨h, X, G⟩ := T.hp
  exact He.glo_ok X G (T.c.fact 3 rfl)
theorem glo__law_far (T : Txt K mg) : mg "_law_far" = some (.ref (He.ga K "_law_far")) := by
  obtain ⟨h, X, G⟩ := T.hp
  exact He.glo_ok X G (T.c.fact 4 rfl)
theorem glo__law_held (T : Txt K mg) : mg "_law_held" = some (.ref (He.ga K "_law_held")) := by
  obtain ⟨h, X, G⟩ := T.hp
  exact He.glo_ok X G (T.c.fact 5 rfl)
theorem glo_law (T : Txt K mg) : mg "law" = some (.ref (He.ga K "law")) := by
  obtain ⟨h, X, G⟩ := T.hp
  exact He.glo_ok X G (T.c.fact 6 rfl)
theorem glo_Course (T : Txt K mg) : mg "Course" = some (.ref (He.ga K "Course")) := by
  obtain ⟨h, X, G⟩ := T.hp
  exact He.glo_ok X G (T.c.fact 7 rfl)
theorem free_len (T : Txt K mg) : mg "len" = none := by
  obtain ⟨h, X, G⟩ := T.hp
  exact He.free_ok X G (T.c.fact 8 rfl)
theorem free_abs (T : Txt K mg) : mg "abs" = none := by
  obtain ⟨h, X, G⟩ := T.hp
  exact He.free_ok X G (T.c.fact 9 rfl)
theorem free_max (T : Txt K mg) : mg "max" = none := by
  obtain ⟨h, X, G⟩ := T.hp
  exact He.free_ok X G (T.c.fact 10 rfl)
theorem free_sum (T : Txt K mg) : mg "sum" = none := by
  obtain ⟨h, X, G⟩ := T.hp
  exact He.free_ok X G (T.c.fact 11 rfl)
theorem free_isinstance (T : Txt K mg) : mg "isinstance" = none := by
  obtain ⟨h, X, G⟩ := T.hp
  exact He.free_ok X G (T.c.fact 12 rfl)
theorem free_int (T : Txt K mg) : mg "int" = none := by
  obtain ⟨h, X, G⟩ := T.hp
  exact He.free_ok X G (T.c.fact 13 rfl)
theorem free_bool (T : Txt K mg) : mg "bool" = none := by
  obtain ⟨h, X, G⟩ := T.hp
  exact He.free_ok X G (T.c.fact 14 rfl)
theorem free_min (T : Txt K mg) : mg "min" = none := by
  obtain ⟨h, X, G⟩ := T.hp
  exact He.free_ok X G (T.c.fact 15 rfl)
theorem free_reversed (T : Txt K mg) : mg "reversed" = none := by
  obtain ⟨h, X, G⟩ := T.hp
  exact He.free_ok X G (T.c.fact 16 rfl)
theorem free_range (T : Txt K mg) : mg "range" = none := by
  obtain ⟨h, X, G⟩ := T.hp
  exact He.free_ok X G (T.c.fact 17 rfl)
theorem fact_cls_Course (T : Txt K mg) : (He.Fa.ok K (.cls "Course")) = true := T.c.fact 18 rfl
theorem fact_mk_Course (T : Txt K mg) : (He.Fa.ok K (.mkr "Course")) = true := T.c.fact 19 rfl
theorem fact_na_Course_first (T : Txt K mg) : (He.Fa.ok K (.noat "Course" "first")) = true := T.c.fact 20 rfl
theorem fact_na_Course_fades (T : Txt K mg) : (He.Fa.ok K (.noat "Course" "fades")) = true := T.c.fact 21 rfl
theorem fact_m_Course_tell (T : Txt K mg) : (He.Fa.ok K (.meth "Course" "tell")) = true := T.c.fact 22 rfl
theorem fact_m_Course_at (T : Txt K mg) : (He.Fa.ok K (.meth "Course" "at")) = true := T.c.fact 23 rfl
theorem fact_m_Course_aim (T : Txt K mg) : (He.Fa.ok K (.meth "Course" "aim")) = true := T.c.fact 24 rfl
theorem fact_m_Course_still (T : Txt K mg) : (He.Fa.ok K (.meth "Course" "still")) = true := T.c.fact 25 rfl
end
section
variable {K : PySem.W.Frag} {mg : Str → Option Value}
theorem cls_Course (T : Txt K mg) : Cls K (He.ga K "Course") := He.cls_ok (fact_cls_Course T)
theorem mk_Course (T : Txt K mg) : Mk K (He.ga K "Course") (He.ma K (He.ga K "Course") "__init__") := He.mkr_ok (fact_mk_Course T)
theorem na_Course_first (T : Txt K mg) : NoAttr K (He.ga K "Course") "first" := He.noat_ok (fact_na_Course_first T)
theorem na_Course_fades (T : Txt K mg) : NoAttr K (He.ga K "Course") "fades" := He.noat_ok (fact_na_Course_fades T)
theorem m_Course_tell (T : Txt K mg) : Meth K (He.ga K "Course") "tell" (He.ma K (He.ga K "Course") "tell") := He.meth_ok (fact_m_Course_tell T)
theorem m_Course_at (T : Txt K mg) : Meth K (He.ga K "Course") "at" (He.ma K (He.ga K "Course") "at") := He.meth_ok (fact_m_Course_at T)
theorem m_Course_aim (T : Txt K mg) : Meth K (He.ga K "Course") "aim" (He.ma K (He.ga K "Course") "aim") := He.meth_ok (fact_m_Course_aim T)
theorem m_Course_still (T : Txt K mg) : Meth K (He.ga K "Course") "still" (He.ma K (He.ga K "Course") "still") := He.meth_ok (fact_m_Course_still T)
end
section
variable {P : Program} {w : World} {K : PySem.W.Frag} {mg : Str → Option Value} {base : Heap}
/-! ### stand -/
def way (s e : Int) : Int := if e - s < 0 then -(e - s) else e - s
def stand (s e l t b : Int) : Int :=
  if t < 0 then s else if b * l ≤ t then e else if e < s then s - way s e * t / (b * l) else s + way s e * t / (b * l)
/-- how far the numbers may go -/
def Fits (s e l b : Int) : Prop := 0 ≤ s ∧ s ≤ 1000000000000000000 ∧ 0 ≤ e ∧ e ≤ 1000000000000000000 ∧ 0 ≤ l ∧ l ≤ 1000000000000000000 ∧ 1 ≤ b ∧ b ≤ 1000000000000000000
theorem way_bound {s e l b : Int} (h : Fits s e l b) : 0 ≤ way s e ∧ way s e ≤ 1000000000000000000 := by
  obtain ⟨s0, s1, e0, e1, l0, l1, b0, b1⟩ := h
  unfold way
  split <;> omega
theorem bl_bound {s e l b : Int} (h : Fits s e l b) : (b * l).natAbs < 2 ^ 121 := by
  obtain ⟨s0, s1, e0, e1, l0, l1, b0, b1⟩ := h
  rw [Int.natAbs_mul]
  have h1 : b.natAbs ≤ 10 ^ 18 := by omega
  have h2 : l.natAbs ≤ 10 ^ 18 := by omega
  exact Nat.lt_of_le_of_lt (Nat.mul_le_mul h1 h2) (by decide)
theorem bl_pos {s e l t b : Int} (h : Fits s e l b) (h0 : ¬ t < 0) (h1 : ¬ b * l ≤ t) : 0 < b * l := by omega
def spStand : Sp := fun vs H Q _ => ∃ s e l t b, vs = [.int s, .int e, .int l, .int t, .int b] ∧ Fits s e l b ∧ Q (.int (stand s e l t b)) H
theorem ok_stand (T : Txt K mg) : ∃ fd, FnOk P w K mg base CX0 1 (He.fAd K ("stand", none)) fd ["start", "end", "length", "top", "bottom"] spStand ∧ FunD K "stand" "stand" (defArgs s_stand) (defBody s_stand) (defScope s_stand) [V.int 1] [] (He.fAd K ("stand", none)) fd := by
  obtain ⟨fd, F⟩ := T.c.def_ 0 (d := d_stand) rfl
  refine ⟨fd, F.ok sc_stand (by walk_at "g94len") (fun cdv A outer st H vs Q E hr h => ?_), F⟩
  · obtain ⟨s, e, l, t, b, rfl, hf, k⟩ := h
    refine ⟨_, PSs.nox (pss_cons (ps_if (pt_cmpR op_lt (pv 3) pe_int (nomark _)) (pss_one (ps_ret (pv 0))) pss_nil)
        (pss_cons (ps_if (pt_cmpR op_ge (pv 3) (pe_op op_mul (pv 4) (pv 2)) (nomark _)) (pss_one (ps_ret (pv 1))) pss_nil)
        (pss_cons (ps_set (i := 5) sc_stand.nd rfl (Or.inl rfl) (pe_op op_fdivW (pe_op op_mul (pe_callB call_abs (by rfl) (free_abs T) (by decide +kernel) (pa_cons (pe_op op_sub (pv 1) (pv 0)) pa_nil)) (pv 3)) (pe_op op_mul (pv 4) (pv 2))))
        (pss_cons (ps_if (pt_cmpR op_lt (pv 1) (pv 0) (nomark _)) (pss_one (ps_ret (pe_op op_sub (pv 0) (pv 5)))) pss_nil)
        (pss_one (ps_ret (pe_op op_add (pv 0) (pv 5)))))))), ?_⟩
    unfold stand at k
    have hf' := hf
    obtain ⟨s0, s1, e0, e1, l0, l1, b0, b1⟩ := hf'
    have wb := way_bound hf
    walk_at "rds"
    walk_at "ri" <;> intro c1
    · rw [if_pos c1] at k
      exact ⟨_, rfl, k⟩
    rw [if_neg c1] at k
    refine ⟨_, rfl, _, rfl, _, rfl, _, _, rfl, rfl, .inl ⟨by omega, by omega⟩, _, _, rfl, rfl, _, rfl, ?_⟩
    walk_at "ri" <;> intro c2
    · rw [if_pos c2] at k
      exact ⟨_, rfl, k⟩
    rw [if_neg c2] at k
    have hp := bl_pos hf c1 c2
    refine ⟨_, rfl, _, rfl, _, _, rfl, rfl, _, rfl, _, rfl, _, _, rfl, rfl, .inl ⟨?_, ?_⟩, ?_⟩
    · show -(2 ^ 64) < way s e
      omega
    · show way s e < 2 ^ 64
      omega
    refine ⟨_, rfl, _, rfl, _, _, rfl, rfl, .inl ⟨by omega, by omega⟩, _, _, rfl, rfl, wide_div hp (bl_bound hf) (by decide) (by decide), ?_⟩
    refine ⟨_, rfl, _, rfl, _, _, rfl, rfl, _, rfl, ?_⟩
    walk_at "ri" <;> intro c3
    · rw [if_pos c3] at k
      exact ⟨_, rfl, _, rfl, _, _, rfl, rfl, k⟩
    · rw [if_neg c3] at k
      exact ⟨_, rfl, _, rfl, _, _, rfl, rfl, k⟩
/-! ### courses: the data -/
structure Fade where
  out : Int
  start : Int
  fin : Int
  len : Int
def Fade.v (f : Fade) : List V := [.int f.out, .int f.start, .int f.fin, .int f.len]
structure Crs where
  first : Int
  fades : List Fade
def look (first t b : Int) : List Fade → Int
  | [] => first
  | f :: r => if f.out * b ≤ t then stand f.start f.fin f.len (t - f.out * b) b else look first t b r
theorem look_yes {first t b : Int} {f : Fade} {r : List Fade} (h : f.out * b ≤ t) : look first t b (f :: r) = stand f.start f.fin f.len (t - f.out * b) b := if_pos h
theorem look_no {first t b : Int} {f : Fade} {r : List Fade} (h : ¬ f.out * b ≤ t) : look first t b (f :: r) = look first t b r := if_neg h
def Crs.pos (c : Crs) (t b : Int) : Int := look c.first t b c.fades.reverse
def kept (o : Int) (fs : List Fade) : List Fade := fs.filter fun f => decide (f.out < o)
def Crs.tell (c : Crs) (now wait rise fall fin : Int) : Crs :=
  ⟨c.first, kept (now + wait) c.fades ++ [⟨now + wait, look c.first (now + wait) 1 (kept (now + wait) c.fades).reverse, fin, if look c.first (now + wait) 1 (kept (now + wait) c.fades).reverse < fin then rise else fall⟩]⟩
def Crs.aim (c : Crs) : Int := match c.fades.getLast? with
  | none => c.first
  | some f => f.fin
def Crs.still (c : Crs) : Int := match c.fades.getLast? with
  | none => 0
  | some f => f.out + f.len
def Inr (x : Int) : Prop := 0 ≤ x ∧ x ≤ 1000000000000000000
structure Fade.Good (f : Fade) : Prop where
  s : Inr f.start
  e : Inr f.fin
  l : Inr f.len
structure Crs.Good (c : Crs) : Prop where
  f : Inr c.first
  fs : ∀ f ∈ c.fades, f.Good
theorem stand_in {s e l t b : Int} (hs : Inr s) (he : Inr e) (hl : Inr l) (hb : 1 ≤ b) : Inr (stand s e l t b) := by
  obtain ⟨s0, s1⟩ := hs
  obtain ⟨e0, e1⟩ := he
  obtain ⟨l0, l1⟩ := hl
  unfold stand
  by_cases c1 : t < 0
  · rw [if_pos c1]
    exact ⟨s0, s1⟩
  rw [if_neg c1]
  by_cases c2 : b * l ≤ t
  · rw [if_pos c2]
    exact ⟨e0, e1⟩
  rw [if_neg c2]
  have hp : 0 < b * l := by omega
  have hw : 0 ≤ way s e := by
    unfold way
    split <;> omega
  have g0 : 0 ≤ way s e * t / (b * l) := Int.ediv_nonneg (Int.mul_nonneg hw (by omega)) (by omega)
  have g1 : way s e * t / (b * l) ≤ way s e := by
    have h2 : way s e * t ≤ way s e * (b * l) := Int.mul_le_mul_of_nonneg_left (by omega) hw
    have h3 : way s e * t / (b * l) * (b * l) ≤ way s e * t := Int.ediv_mul_le _ (by omega)
    exact Int.le_of_mul_le_mul_right (Int.le_trans h3 h2) hp
  generalize way s e * t / (b * l) = g at g0 g1 ⊢
  unfold way at g1
  unfold Inr
  by_cases c3 : e < s
  · rw [if_pos c3]
    split at g1 <;> omega
  · rw [if_neg c3]
    split at g1 <;> omega
theorem look_in {first t b : Int} (h0 : Inr first) (hb : 1 ≤ b) : ∀ {fs : List Fade}, (∀ f ∈ fs, f.Good) → Inr (look first t b fs)
  | [], _ => h0
  | f :: r, h => by
    unfold look
    have hf := h f List.mem_cons_self
    split
    · exact stand_in hf.s hf.e hf.l hb
    · exact look_in h0 hb fun g hg => h g (List.mem_cons_of_mem _ hg)
theorem kept_good {o : Int} {fs : List Fade} (h : ∀ f ∈ fs, f.Good) : ∀ f ∈ kept o fs, f.Good := fun f hf => h f (List.mem_filter.mp hf).1
theorem Crs.Good.tell {c : Crs} (h : c.Good) {now wait rise fall fin : Int} (hr : Inr rise) (hf : Inr fall) (he : Inr fin) : (c.tell now wait rise fall fin).Good := by
  refine ⟨h.f, fun f hm => ?_⟩
  rcases List.mem_append.mp hm with hm | hm
  · exact kept_good h.fs f hm
  · have e := List.mem_singleton.mp hm
    subst e
    refine ⟨?_, he, ?_⟩
    · exact look_in h.f (by decide) fun g hg => kept_good h.fs g (List.mem_reverse.mp hg)
    · show Inr (if _ then rise else fall)
      split
      · exact hr
      · exact hf
theorem Crs.tell_len (c : Crs) (now wait rise fall fin : Int) : (c.tell now wait rise fall fin).fades.length ≤ c.fades.length + 1 := by
  have h := List.length_filter_le (fun f : Fade => decide (f.out < now + wait)) c.fades
  show (kept (now + wait) c.fades ++ [_]).length ≤ _
  rw [List.length_append]
  unfold kept
  simp only [List.length_cons, List.length_nil]
  omega
/-! ### courses: the heap -/
def TupsAt (H : Hp) (ts : List Addr) (fs : List Fade) : Prop := ts.length = fs.length ∧ ∀ (i : Nat) t f, ts[i]? = some t → fs[i]? = some f → H t = some (.tup f.v)
theorem TupsAt.mono {H H' : Hp} {ts : List Addr} {fs : List Fade} (h : TupsAt H ts fs) (e : ∀ t xs, H t = some (.tup xs) → H' t = some (.tup xs)) : TupsAt H' ts fs := ⟨h.1, fun i t f a b => e _ _ (h.2 i t f a b)⟩
theorem TupsAt.snoc {H : Hp} {ts : List Addr} {fs : List Fade} (h : TupsAt H ts fs) {t : Addr} {f : Fade} (ht : H t = some (.tup f.v)) : TupsAt H (ts ++ [t]) (fs ++ [f]) := by
  refine ⟨by rw [List.length_append, List.length_append, h.1]; rfl, fun i u g a b => ?_⟩
  by_cases hi : i < ts.length
  · rw [List.getElem?_append_left hi] at a
    rw [List.getElem?_append_left (by rw [← h.1]; exact hi)] at b
    exact h.2 i u g a b
  · have hi' : ts.length ≤ i := by omega
    rw [List.getElem?_append_right hi'] at a
    rw [List.getElem?_append_right (by rw [← h.1]; exact hi'), ← h.1] at b
    cases hk : i - ts.length with
    | zero =>
      rw [hk] at a b
      have e1 : t = u := Option.some.inj a
      have e2 : f = g := Option.some.inj b
      rw [← e1, ← e2]
      exact ht
    | succ k =>
      rw [hk] at a
      cases a
abbrev cC (K : PySem.W.Frag) : Addr := He.ga K "Course"
def cflds (z : Int) (l : Addr) : List (Str × V) := [(("first" : Str), V.int z), (("fades" : Str), V.ref l)]
theorem nff : ¬ (("first" : Str) = "fades") := by decide +kernel
theorem nff2 : ¬ (("fades" : Str) = "first") := by decide +kernel
theorem cf_first (z : Int) (l : Addr) : (cflds z l).lookup ("first" : Str) = some (.int z) := by simp [cflds, List.lookup]
theorem cf_fades (z : Int) (l : Addr) : (cflds z l).lookup ("fades" : Str) = some (.ref l) := by
  have e : (("fades" : Str) == ("first" : Str)) = false := by simpa using nff2
  simp [cflds, List.lookup, e]
theorem cf_no (z : Int) (l : Addr) {m : Str} (h1 : ¬ m = ("first" : Str)) (h2 : ¬ m = ("fades" : Str)) : (cflds z l).lookup m = none := by
  have e1 : (m == ("first" : Str)) = false := by simpa using h1
  have e2 : (m == ("fades" : Str)) = false := by simpa using h2
  simp [cflds, List.lookup, e1, e2]
theorem cf_make (z : Int) (l : Addr) : putF "fades" (.ref l) (putF "first" (.int z) []) = cflds z l := by
  simp [putF, cflds, nff]
theorem cf_put (z : Int) (l l' : Addr) : putF "fades" (.ref l') (cflds z l) = cflds z l' := by
  simp [putF, cflds, nff]
structure CrsAt (K : PySem.W.Frag) (H : Hp) (p : Addr) (c : Crs) : Prop where
  ob : ∃ dx l ts, H p = some (.ins (cC K) dx (cflds c.first l)) ∧ H l = some (.lst (ts.map V.ref)) ∧ TupsAt H ts c.fades
/-- .. its list of fades told -/
structure CrsL (K : PySem.W.Frag) (H : Hp) (p l : Addr) (c : Crs) : Prop where
  ob : ∃ dx ts, H p = some (.ins (cC K) dx (cflds c.first l)) ∧ H l = some (.lst (ts.map V.ref)) ∧ TupsAt H ts c.fades
theorem CrsL.crs {K : PySem.W.Frag} {H : Hp} {p l : Addr} {c : Crs} (h : CrsL K H p l c) : CrsAt K H p c := by
  obtain ⟨dx, ts, h1⟩ := h.ob
  exact ⟨dx, l, ts, h1⟩
theorem CrsL.same {K : PySem.W.Frag} {H H' : Hp} {p l : Addr} {c : Crs} (h : CrsL K H p l c) (e : Same H H') : CrsL K H' p l c := by
  obtain ⟨dx, ts, h1, h2, h3⟩ := h.ob
  exact ⟨dx, ts, e _ _ h1, e _ _ h2, h3.mono fun t xs q => e _ _ q⟩
/-- another list is written -/
theorem CrsL.lst {K : PySem.W.Frag} {H : Hp} {p l a : Addr} {c : Crs} (h : CrsL K H p l c) {xs : List V} {o : HO} (ha : H a = some (.lst xs)) (hl : a ≠ l) : CrsL K (upd H a o) p l c := by
  obtain ⟨dx, ts, h1, h2, h3⟩ := h.ob
  refine ⟨dx, ts, ?_, ?_, h3.mono fun t xs q => ?_⟩
  · rw [upd_ne (ne_of h1 ha (by intro z; cases z))]
    exact h1
  · rw [upd_ne hl.symm]
    exact h2
  · rw [upd_ne (ne_of q ha (by intro z; cases z))]
    exact q
/-- a course stays where all that was tracked stays -/
theorem CrsAt.same {K : PySem.W.Frag} {H H' : Hp} {p : Addr} {c : Crs} (h : CrsAt K H p c) (e : Same H H') : CrsAt K H' p c := by
  obtain ⟨dx, l, ts, h1, h2, h3⟩ := h.ob
  exact ⟨dx, l, ts, e _ _ h1, e _ _ h2, h3.mono fun t xs q => e _ _ q⟩
theorem made_same {H H1 : Hp} {C x dx : Addr} (hx : H x = none) (hd : H dx = none) (k : ∀ b o, upd (upd H dx (.own x)) x (.ins C dx []) b = some o → b ≠ x → H1 b = some o) : Same H H1 := fun b o e => by
  refine k b o ?_ (ne_of_none e hx)
  rw [upd_ne (ne_of_none e hx), upd_ne (ne_of_none e hd)]
  exact e
theorem CrsAt.list {K : PySem.W.Frag} {H H' : Hp} {p : Addr} {c : Crs} (h : CrsAt K H p c) (k : ∀ b o, H b = some o → b ≠ p → H' b = some o) {a : Addr} {xs : List V} (hS : SqL K H a xs) : SqL K H' a xs := by
  obtain ⟨dx, l, ts, h1, _, _⟩ := h.ob
  rcases hS with (q | ⟨o, q⟩) | q
  · exact .inl (.inl (k _ _ q (ne_of q h1 (by intro z; cases z))))
  · exact .inl (.inr ⟨o, k _ _ q (ne_of q h1 (by intro z; cases z))⟩)
  · exact .inr q
theorem CrsAt.tup {K : PySem.W.Frag} {H H' : Hp} {p : Addr} {c : Crs} (h : CrsAt K H p c) (k : ∀ b o, H b = some o → b ≠ p → H' b = some o) {a : Addr} {xs : List V} (e : H a = some (.tup xs)) : H' a = some (.tup xs) := by
  obtain ⟨dx, l, ts, h1, _, _⟩ := h.ob
  exact k _ _ e (ne_of e h1 (by intro z; cases z))
def FPy (fs : List Fade) : List PyData := fs.map fun f => .tuple [.int f.out, .int f.start, .int f.fin, .int f.len]
theorem fpy_lay : ∀ fs : List Fade, PyData.canLayAll0 (FPy fs) = true
  | [] => by simp [FPy, PyData.canLayAll0]
  | f :: r => by
    have ih := fpy_lay r
    unfold FPy at ih ⊢
    simp [PyData.canLayAll0, PyData.canLay0, ih]
theorem fpy_depth : ∀ fs : List Fade, PyData.depthAll (FPy fs) ≤ 1
  | [] => by simp [FPy, PyData.depthAll]
  | f :: r => by
    have ih := fpy_depth r
    unfold FPy at ih ⊢
    simp only [List.map_cons, PyData.depthAll, PyData.depth]
    omega
theorem fpy_shaped (fs : List Fade) : SeqAt.shaped (.list (FPy fs)) = true := by
  unfold SeqAt.shaped
  rw [Bool.and_eq_true]
  refine ⟨by simp only [PyData.canLay0]; exact fpy_lay fs, decide_eq_true ?_⟩
  have h := fpy_depth fs
  simp only [PyData.depth]
  omega
theorem dp_fades {K : PySem.W.Frag} {H : Hp} : ∀ {ts : List Addr} {fs : List Fade}, TupsAt H ts fs → DpAll K H (ts.map V.ref) (FPy fs)
  | [], [], _ => .nil
  | [], _ :: _, h => by cases h.1
  | _ :: _, [], h => by cases h.1
  | t :: ts, f :: fs, h => by
    have h0 : H t = some (.tup f.v) := h.2 0 t f rfl rfl
    have hr : TupsAt H ts fs := ⟨Nat.succ.inj h.1, fun i u g a b => h.2 (i + 1) u g a b⟩
    exact .cons (.tup (SqT.of h0) (.cons (.int _) (.cons (.int _) (.cons (.int _) (.cons (.int _) .nil))))) (dp_fades hr)
theorem eqv_nil (fs : List Fade) : PyData.eqv (.list (FPy fs)) (.list []) = decide (fs = []) := by
  cases fs with
  | nil => simp [FPy, PyData.eqv, PyData.eqvAll]
  | cons f r => simp [FPy, PyData.eqv, PyData.eqvAll]
/-! ### the methods -/
def spInit (K : PySem.W.Frag) : Sp := fun vs H Q _ => ∃ (p dx : Addr) (z : Int), vs = [.ref p, .int z] ∧ H p = some (.ins (cC K) dx []) ∧ ∀ (H' : Hp) (l : Addr), H l = none → l ≠ p → CrsL K H' p l ⟨z, []⟩ → (∀ b o, H b = some o → b ≠ p → H' b = some o) → Q .non H'
theorem ok_Course_init (T : Txt K mg) : ∃ fd, FnOk P w K mg base CX0 1 (He.fAd K ("Course", some "__init__")) fd ["self", "worth"] (spInit K) ∧ FunD K "__init__" "Course.__init__" (defArgs s_Course_init) (defBody s_Course_init) (defScope s_Course_init) [V.int 0] [] (He.fAd K ("Course", some "__init__")) fd := by
  obtain ⟨fd, F⟩ := T.c.def_ 1 (d := d_Course_init) rfl
  refine ⟨fd, F.ok sc_Course_init (by walk_at "g94len") (fun cdv A outer st H vs Q E hr h => ?_), F⟩
  · obtain ⟨p, dx, z, rfl, hp, k⟩ := h
    refine ⟨_, PSs.nox (pss_cons (ps_fld (pv 0) (pv 1) rfl)
        (pss_one (ps_fld (pv 0) (pe_lst pa_nil) rfl))), ?_⟩
    refine ⟨_, rfl, _, rfl, p, cC K, dx, [], rfl, hp, cls_Course T, na_Course_first T, (by show 0 < 1000; decide), ?_⟩
    refine ⟨small_size (Nat.le_of_ble_eq_true rfl), fun l hl => ?_⟩
    have npl : p ≠ l := ne_of_none upd_same hl
    refine ⟨_, rfl, p, cC K, dx, _, rfl, (by rw [upd_ne npl]; exact upd_same), cls_Course T, na_Course_fades T, (by show 1 < 1000; decide), ?_⟩
    have hl0 : H l = none := by
      rw [upd_ne npl.symm] at hl
      exact hl
    refine k _ l hl0 npl.symm ⟨dx, [], ?_, ?_, rfl, fun i t f a => by cases a⟩ fun b o hb hn => ?_
    · rw [upd_same, cf_make]
    · rw [upd_ne npl.symm, upd_same]
      rfl
    · have hl' : H l = none := by
        rw [upd_ne npl.symm] at hl
        exact hl
      rw [upd_ne hn, upd_ne (ne_of_none hb hl'), upd_ne hn]
      exact hb
def spAt (K : PySem.W.Frag) : Sp := fun vs H Q _ => ∃ (p : Addr) (c : Crs) (t b : Int), vs = [.ref p, .int t, .int b] ∧ CrsAt K H p c ∧ c.Good ∧ 1 ≤ b ∧ b ≤ 1000000000000000000 ∧ Q (.int (c.pos t b)) H
theorem ok_Course_at (T : Txt K mg) : ∃ fd, FnOk P w K mg base CX0 2 (He.fAd K ("Course", some "at")) fd ["self", "top", "bottom"] (spAt K) ∧ FunD K "at" "Course.at" (defArgs s_Course_at) (defBody s_Course_at) (defScope s_Course_at) [V.int 1] [] (He.fAd K ("Course", some "at")) fd := by
  obtain ⟨fd, F⟩ := T.c.def_ 2 (d := d_Course_at) rfl
  obtain ⟨fd_stand, G_stand, F_stand⟩ := ok_stand (P := P) (w := w) (base := base) T
  have kp_stand := F_stand.kp
  obtain ⟨d0_stand, v0_stand, b0_stand⟩ : ∃ ds, Vals ([V.int 1].drop 1) ds ∧ Binds K fd_stand ["start", "end", "length", "top", "bottom"] ds := F_stand.binds1 5 1 (by decide) rfl (fun _ _ _ _ _ _ _ us its h1 h2 => match us, its, h1, h2 with | [_, _, _, _, _], [_], _, _ => ⟨_, rfl, rfl⟩)
  refine ⟨fd, F.ok sc_Course_at (by walk_at "g94len") (fun cdv A outer st H vs Q E hr h => ?_), F⟩
  · obtain ⟨p, c, t, b, rfl, hc, hg, b0, b1, k⟩ := h
    obtain ⟨dx, l, ts, h1, h2, h3⟩ := hc.ob
    refine ⟨_, PSs.nox (pss_cons (ps_for PassesOwn.never rfl (pi_reversed (by rfl) (free_reversed T) (pa_cons (pe_fld (pv 0) rfl) pa_nil)) (pg_tup rfl (pgs_cons (pg_name (i := 3) sc_Course_at.nd rfl (Or.inl rfl)) (pgs_cons (pg_name (i := 4) sc_Course_at.nd rfl (Or.inl rfl)) (pgs_cons (pg_name (i := 5) sc_Course_at.nd rfl (Or.inl rfl)) (pgs_cons (pg_name (i := 6) sc_Course_at.nd rfl (Or.inl rfl)) pgs_nil))))) (pss_one (ps_if (pt_cmpR op_le (pe_op op_mul (pv 3) (pv 2)) (pv 1) (nomark _)) (pss_one (ps_ret (pe_call G_stand (hr.mono (by decide)) rfl (glo_stand T) kp_stand b0_stand v0_stand pass0 (pa_cons (pv 4) (pa_cons (pv 5) (pa_cons (pv 6) (pa_cons (pe_op op_sub (pv 1) (pe_op op_mul (pv 3) (pv 2))) (pa_cons (pv 2) pa_nil)))))))) pss_nil)))
        (pss_one (ps_ret (pe_fld (pv 0) rfl)))), ?_⟩
    refine ⟨_, rfl, p, cC K, dx, _, _, rfl, h1, cls_Course T, na_Course_fades T, cf_fades _ _, l, ts.map V.ref, rfl, SqL.of h2, ?_⟩
    refine RT.for_Itv (K := K) (a := l) (xs := ts.map V.ref) (fun i σ' H' => ∃ v3 v4 v5 v6, σ' = [some (.ref p), some (.int t), some (.int b), v3, v4, v5, v6] ∧ H' = H ∧ c.pos t b = look c.first t b (c.fades.reverse.drop i))
      ⟨_, _, _, _, rfl, rfl, rfl⟩ (fun i σ' H' ⟨_, _, _, _, _, e, _⟩ => by rw [e]; exact SqL.of h2) ?_ ?_
    · rintro i x σ' H' hi hx ⟨v3, v4, v5, v6, rfl, rfl, hl⟩
      rw [List.length_map] at hi hx
      obtain ⟨u, hu, rfl⟩ : ∃ u, ts[ts.length - 1 - i]? = some u ∧ x = V.ref u := by
        rw [List.getElem?_map] at hx
        cases e : ts[ts.length - 1 - i]? with
        | none =>
          rw [e] at hx
          cases hx
        | some u =>
          rw [e] at hx
          exact ⟨u, rfl, (Option.some.inj hx).symm⟩
      have hlen := h3.1
      have hj : c.fades.length - 1 - i < c.fades.length := by omega
      have hf : c.fades[ts.length - 1 - i]? = some c.fades[c.fades.length - 1 - i] := by
        rw [hlen]
        exact List.getElem?_eq_getElem hj
      have ht := h3.2 _ u _ hu hf
      have hgf := hg.fs _ (List.getElem_mem hj)
      have hir : i < c.fades.reverse.length := by
        rw [List.length_reverse]
        omega
      have hd : c.fades.reverse.drop i = c.fades[c.fades.length - 1 - i] :: c.fades.reverse.drop (i + 1) := by
        rw [List.drop_eq_getElem_cons hir, List.getElem_reverse]
      rw [hd] at hl
      generalize c.fades[c.fades.length - 1 - i] = f at ht hgf hl
      obtain ⟨⟨s0, s1⟩, ⟨e0, e1⟩, ⟨l0, l1⟩⟩ := hgf
      refine ⟨u, _, rfl, SqT.of ht, rfl, ?_⟩
      walk_at "rds"
      walk_at "ri" <;> intro c1
      · have q : c.pos t b = stand f.start f.fin f.len (t - f.out * b) b := by
          rw [hl, look_yes c1]
        rw [q] at k
        have hfit : Fits f.start f.fin f.len b := ⟨s0, s1, e0, e1, l0, l1, b0, b1⟩
        walk_at "rds"
        exact k
      · refine ⟨_, _, _, _, rfl, rfl, ?_⟩
        rw [hl, look_no c1]
    · rintro σ' H' ⟨v3, v4, v5, v6, rfl, rfl, hl⟩
      have q : c.pos t b = c.first := by
        rw [hl]
        have e : c.fades.reverse.drop (ts.map V.ref).length = [] := by
          rw [List.length_map, h3.1]
          exact List.drop_eq_nil_of_le (by rw [List.length_reverse]; exact Nat.le_refl _)
        rw [e]
        rfl
      rw [q] at k
      exact ⟨_, rfl, p, cC K, dx, _, _, rfl, h1, cls_Course T, na_Course_first T, cf_first _ _, k⟩
def spAim (K : PySem.W.Frag) : Sp := fun vs H Q _ => ∃ (p : Addr) (c : Crs), vs = [.ref p] ∧ CrsAt K H p c ∧ ∀ H', Same H H' → Q (.int c.aim) H'
theorem fades_last {ts : List Addr} {fs : List Fade} {H : Hp} (h : TupsAt H ts fs) (hn : ¬ fs = []) : ∃ (t : Addr) (f : Fade), atI (ts.map V.ref) (-1) = some (V.ref t) ∧ fs.getLast? = some f ∧ H t = some (.tup f.v) := by
  have hl : 0 < fs.length := List.length_pos_iff.mpr hn
  have e := h.1
  have hj : ts.length - 1 < ts.length := by omega
  have hk : fs.length - 1 < fs.length := by omega
  refine ⟨ts[ts.length - 1], fs[fs.length - 1], ?_, ?_, ?_⟩
  · have hx : (ts.map V.ref)[ts.length - 1]? = some (V.ref ts[ts.length - 1]) := by
      rw [List.getElem?_map, List.getElem?_eq_getElem hj]
      rfl
    unfold atI ixN
    rw [if_neg (by decide), if_pos (by rw [List.length_map]; omega), Option.bind_some, List.length_map]
    have e2 : ((-1 : Int) + (ts.length : Int)).toNat = ts.length - 1 := by omega
    rw [e2]
    exact hx
  · rw [List.getLast?_eq_getElem?]
    exact List.getElem?_eq_getElem hk
  · exact h.2 (ts.length - 1) _ _ (List.getElem?_eq_getElem hj) (by rw [e]; exact List.getElem?_eq_getElem hk)
theorem ok_Course_aim (T : Txt K mg) : ∃ fd, FnOk P w K mg base CX0 1 (He.fAd K ("Course", some "aim")) fd ["self"] (spAim K) ∧ FunD K "aim" "Course.aim" (defArgs s_Course_aim) (defBody s_Course_aim) (defScope s_Course_aim) [] [] (He.fAd K ("Course", some "aim")) fd := by
  obtain ⟨fd, F⟩ := T.c.def_ 4 (d := d_Course_aim) rfl
  refine ⟨fd, F.ok sc_Course_aim (by walk_at "g94len") (fun cdv A outer st H vs Q E hr h => ?_), F⟩
  · obtain ⟨p, c, rfl, hc, k⟩ := h
    obtain ⟨dx, l, ts, h1, h2, h3⟩ := hc.ob
    refine ⟨_, PSs.nox (pss_cons (ps_if (pt_cmpR (op_eqD hr.units) (pe_fld (pv 0) rfl) (pe_lst pa_nil) (nomark _)) (pss_one (ps_ret (pe_fld (pv 0) rfl))) pss_nil)
        (pss_one (ps_ret (pe_ix ix_tup (pe_ix ix_list (pe_fld (pv 0) rfl) pe_negC (fun _ _ => rfl)) pe_int (fun _ _ => rfl))))), ?_⟩
    refine ⟨_, rfl, p, cC K, dx, _, _, rfl, h1, cls_Course T, na_Course_fades T, cf_fades _ _, small_size (Nat.le_of_ble_eq_true rfl), fun e he => ?_⟩
    have s1 := (Same.refl H).new (o := HO.lst []) he
    have h3' : TupsAt (upd H e (HO.lst [])) ts c.fades := h3.mono fun t xs q => s1 _ _ q
    refine ⟨_, _, .lst (SqL.of (s1 _ _ h2)) (dp_fades h3'), .lst (SqL.of upd_same) .nil, fpy_shaped _, by decide, ?_⟩
    rw [eqv_nil]
    walk_at "rds"
    walk_at "ri" <;> intro c1
    · refine ⟨_, rfl, p, cC K, dx, _, _, rfl, s1 _ _ h1, cls_Course T, na_Course_first T, cf_first _ _, ?_⟩
      have q := k _ s1
      unfold Crs.aim at q
      rw [c1] at q
      exact q
    · obtain ⟨t, f, e1, e2, e3⟩ := fades_last h3 c1
      refine ⟨_, rfl, p, cC K, dx, _, _, rfl, s1 _ _ h1, cls_Course T, na_Course_fades T, cf_fades _ _, l, _, _, _, rfl, rfl, SqL.of (s1 _ _ h2), e1, t, _, _, _, rfl, rfl, SqT.of (s1 _ _ e3), rfl, ?_⟩
      have q := k _ s1
      unfold Crs.aim at q
      rw [e2] at q
      exact q
def spStill (K : PySem.W.Frag) : Sp := fun vs H Q _ => ∃ (p : Addr) (c : Crs), vs = [.ref p] ∧ CrsAt K H p c ∧ ∀ H', Same H H' → Q (.int c.still) H'
theorem ok_Course_still (T : Txt K mg) : ∃ fd, FnOk P w K mg base CX0 1 (He.fAd K ("Course", some "still")) fd ["self"] (spStill K) ∧ FunD K "still" "Course.still" (defArgs s_Course_still) (defBody s_Course_still) (defScope s_Course_still) [] [] (He.fAd K ("Course", some "still")) fd := by
  obtain ⟨fd, F⟩ := T.c.def_ 5 (d := d_Course_still) rfl
  refine ⟨fd, F.ok sc_Course_still (by walk_at "g94len") (fun cdv A outer st H vs Q E hr h => ?_), F⟩
  · obtain ⟨p, c, rfl, hc, k⟩ := h
    obtain ⟨dx, l, ts, h1, h2, h3⟩ := hc.ob
    refine ⟨_, PSs.nox (pss_cons (ps_if (pt_cmpR (op_eqD hr.units) (pe_fld (pv 0) rfl) (pe_lst pa_nil) (nomark _)) (pss_one (ps_ret pe_int)) pss_nil)
        (pss_one (ps_ret (pe_op op_add (pe_ix ix_tup (pe_ix ix_list (pe_fld (pv 0) rfl) pe_negC (fun _ _ => rfl)) pe_int (fun _ _ => rfl)) (pe_ix ix_tup (pe_ix ix_list (pe_fld (pv 0) rfl) pe_negC (fun _ _ => rfl)) pe_int (fun _ _ => rfl)))))), ?_⟩
    refine ⟨_, rfl, p, cC K, dx, _, _, rfl, h1, cls_Course T, na_Course_fades T, cf_fades _ _, small_size (Nat.le_of_ble_eq_true rfl), fun e he => ?_⟩
    have s1 := (Same.refl H).new (o := HO.lst []) he
    have h3' : TupsAt (upd H e (HO.lst [])) ts c.fades := h3.mono fun t xs q => s1 _ _ q
    refine ⟨_, _, .lst (SqL.of (s1 _ _ h2)) (dp_fades h3'), .lst (SqL.of upd_same) .nil, fpy_shaped _, by decide, ?_⟩
    rw [eqv_nil]
    walk_at "rds"
    walk_at "ri" <;> intro c1
    · have q := k _ s1
      unfold Crs.still at q
      rw [c1] at q
      exact q
    · obtain ⟨t, f, e1, e2, e3⟩ := fades_last h3 c1
      refine ⟨_, rfl, p, cC K, dx, _, _, rfl, s1 _ _ h1, cls_Course T, na_Course_fades T, cf_fades _ _, l, _, _, _, rfl, rfl, SqL.of (s1 _ _ h2), e1, t, _, _, _, rfl, rfl, SqT.of (s1 _ _ e3), rfl, ?_⟩
      refine ⟨_, rfl, p, cC K, dx, _, _, rfl, s1 _ _ h1, cls_Course T, na_Course_fades T, cf_fades _ _, l, _, _, _, rfl, rfl, SqL.of (s1 _ _ h2), e1, t, _, _, _, rfl, rfl, SqT.of (s1 _ _ e3), rfl, ?_⟩
      have q := k _ s1
      unfold Crs.still at q
      rw [e2] at q
      exact ⟨_, _, rfl, rfl, q⟩
theorem ref_at {ts : List Addr} {i : Nat} {y : V} (h : (ts.map V.ref)[i]? = some y) : ∃ u, y = V.ref u ∧ ts[i]? = some u ∧ i < ts.length := by
  rw [List.getElem?_map] at h
  cases e : ts[i]? with
  | none =>
    rw [e] at h
    cases h
  | some u =>
    rw [e] at h
    exact ⟨u, (Option.some.inj h).symm, rfl, (List.getElem?_eq_some_iff.mp e).1⟩
theorem take_snoc {α : Type} {l : List α} {i : Nat} {x : α} (h : l[i]? = some x) : l.take (i + 1) = l.take i ++ [x] := by
  rw [List.take_add_one, h]
  rfl
theorem kept_yes {o : Int} {fs : List Fade} {f : Fade} (h : f.out < o) : kept o (fs ++ [f]) = kept o fs ++ [f] := by
  unfold kept
  rw [List.filter_append, List.filter_cons, if_pos (by simpa using h)]
  rfl
theorem kept_no {o : Int} {fs : List Fade} {f : Fade} (h : ¬ f.out < o) : kept o (fs ++ [f]) = kept o fs := by
  unfold kept
  rw [List.filter_append, List.filter_cons, if_neg (by simpa using h)]
  exact List.append_nil _
def spTell (K : PySem.W.Frag) : Sp := fun vs H Q _ => ∃ (p : Addr) (c : Crs) (now wait rise fall fin : Int), vs = [.ref p, .int now, .int wait, .int rise, .int fall, .int fin] ∧ CrsAt K H p c ∧ c.Good ∧ c.fades.length ≤ 1000 ∧
  ∀ (H' : Hp) (l : Addr), H l = none → CrsL K H' p l (c.tell now wait rise fall fin) → (∀ b o, H b = some o → b ≠ p → H' b = some o) → Q .non H'
theorem ok_Course_tell (T : Txt K mg) : ∃ fd, FnOk P w K mg base CX0 3 (He.fAd K ("Course", some "tell")) fd ["self", "now", "wait", "rise", "fall", "end"] (spTell K) ∧ FunD K "tell" "Course.tell" (defArgs s_Course_tell) (defBody s_Course_tell) (defScope s_Course_tell) [] [] (He.fAd K ("Course", some "tell")) fd := by
  obtain ⟨fd, F⟩ := T.c.def_ 3 (d := d_Course_tell) rfl
  obtain ⟨fd_Course_at, G_Course_at, F_Course_at⟩ := ok_Course_at (P := P) (w := w) (base := base) T
  have kp_Course_at := F_Course_at.kp
  obtain ⟨d1_Course_at, v1_Course_at, b1_Course_at⟩ : ∃ ds, Vals ([V.int 1].drop 0) ds ∧ Binds K fd_Course_at ["self", "top", "bottom"] ds := F_Course_at.binds1 2 0 (by decide) rfl (fun _ _ _ _ _ _ _ us its h1 h2 => match us, its, h1, h2 with | [_, _], [_], _, _ => ⟨_, rfl, rfl⟩)
  refine ⟨fd, F.ok sc_Course_tell (by walk_at "g94len") (fun cdv A outer st H vs Q E hr h => ?_), F⟩
  · obtain ⟨p, c, now, wait, rise, fall, fin, rfl, hc, hg, hlen, k⟩ := h
    obtain ⟨dx, l, ts, h1, h2, h3⟩ := hc.ob
    refine ⟨_, PSs.nox (pss_cons (ps_set (i := 6) sc_Course_tell.nd rfl (Or.inr rfl) (pe_op op_add (pv 1) (pv 2)))
        (pss_cons (ps_fld (pv 0) (pe_lc (own := [("fade", 9)]) (g := gName 9) rfl sc_Course_tell.nd (pi_list (pe_fld (pv 0) rfl)) (blkOk_by (own := [("fade", 9)]) (N := ["self", "now", "wait", "rise", "fall", "end", "out", "start", "length", "fade"]) (sc := defScope s_Course_tell) (by decide +kernel)) (fun _ _ _ _ _ => pg_name (i := 9) sc_Course_tell.nd rfl (Or.inl rfl)) (fun _ _ _ _ _ => (pts_one (pt_cmpR op_lt (pe_ix (show IxR _ (rIxT K) from ix_tup) (pv 9) pe_int (fun _ _ => rfl)) (pv 6) (nomark _)))) (fun _ _ _ _ _ => (pv 9))) rfl)
        (pss_cons (ps_set (i := 7) sc_Course_tell.nd rfl (Or.inl rfl) (pe_meth (pv 0) (cls_Course T) (m_Course_at T) G_Course_at (hr.mono (by decide)) b1_Course_at v1_Course_at pass0 (pa_cons (pv 6) pa_nil)))
        (pss_cons (ps_set (i := 8) sc_Course_tell.nd rfl (Or.inl rfl) (pv 4))
        (C8.pss_cut (ps_if (pt_cmpR op_gt (pv 5) (pv 7) (nomark _)) (pss_one (ps_set (i := 8) sc_Course_tell.nd rfl (Or.inl rfl) (pv 3))) pss_nil)
        (pss_one (ps_expr (pe_bm PySem.F.plainAttrs_list PySem.F.slot_list_append PySem.F.type_list_append mt_append (pe_fld (pv 0) rfl) (pa_cons (pe_tup (pa_cons (pv 6) (pa_cons (pv 7) (pa_cons (pv 5) (pa_cons (pv 8) pa_nil))))) pa_nil))))))))), ?_⟩
    walk_at "rds"
    refine ⟨p, cC K, dx, _, _, rfl, h1, cls_Course T, na_Course_fades T, cf_fades _ _, l, rfl, ⟨_, SqL.of h2⟩, fun D hD => ?_⟩
    have npD : p ≠ D := ne_of_none h1 hD
    refine lc_list (K := K) (a := l) (xs := ts.map V.ref) (fun i H' => ∃ acc : List Addr, H' D = some (.lst (acc.map V.ref)) ∧ acc.length ≤ i ∧ TupsAt H acc (kept (now + wait) (c.fades.take i)) ∧ Same H H')
      ⟨[], upd_same, Nat.le_refl _, ⟨rfl, fun i t f a => by cases a⟩, (Same.refl H).new hD⟩ (fun i H' _ ⟨_, _, _, _, s⟩ => s.seq (SqL.of h2)) ?_ ?_
    · rintro i y H' hi ⟨acc, hacc, hal, hta, s⟩
      obtain ⟨u, rfl, hu, hlt⟩ := ref_at hi
      have hlt2 : i < c.fades.length := by
        rw [← h3.1]
        exact hlt
      have hf : c.fades[i]? = some c.fades[i] := List.getElem?_eq_getElem hlt2
      have ht := h3.2 _ u _ hu hf
      rw [take_snoc hf]
      generalize c.fades[i] = f at ht
      refine ⟨rfl, ?_⟩
      refine ⟨_, rfl, u, _, _, _, rfl, rfl, SqT.of (s _ _ ht), rfl, ?_⟩
      walk_at "rds"
      walk_at "ri" <;> intro c1
      · walk_at "rds"
        refine ⟨acc.map V.ref, hacc, ?_, acc ++ [u], ?_, ?_, ?_, s.mut hD⟩
        · rw [List.length_map]
          have := h3.1
          exact Nat.lt_of_le_of_lt (show acc.length ≤ 1000 by omega) (by decide)
        · rw [upd_same, List.map_append]
          rfl
        · rw [List.length_append]
          show acc.length + 1 ≤ i + 1
          omega
        · rw [kept_yes c1]
          exact hta.snoc ht
      · rw [kept_no c1]
        exact ⟨acc, hacc, by omega, hta, s⟩
    rintro H1 ⟨acc, hacc, hal, hta, s1⟩
    rw [List.length_map, h3.1, List.take_length] at hta
    rw [List.length_map, h3.1] at hal
    refine ⟨_, rfl, p, cC K, dx, _, rfl, s1 _ _ h1, cls_Course T, na_Course_fades T, (by show 2 < 1000; decide), ?_⟩
    rw [cf_put]
    have hpD : D ≠ p := fun e => npD e.symm
    have hT : ∀ t xs, H t = some (.tup xs) → upd H1 p (.ins (cC K) dx (cflds c.first D)) t = some (.tup xs) := fun t xs e => by
      rw [upd_ne (ne_of e h1 (by intro z; cases z))]
      exact s1 _ _ e
    have hc2 : CrsAt K (upd H1 p (.ins (cC K) dx (cflds c.first D))) p ⟨c.first, kept (now + wait) c.fades⟩ := ⟨dx, D, acc, upd_same, by rw [upd_ne hpD]; exact hacc, hta.mono hT⟩
    have hg2 : (Crs.mk c.first (kept (now + wait) c.fades)).Good := ⟨hg.f, kept_good hg.fs⟩
    refine ⟨_, rfl, p, dx, _, rfl, upd_same, cf_no _ _ (by decide +kernel) (by decide +kernel), _, rfl, p, _, now + wait, 1, rfl, hc2, hg2, by decide, by decide, ?_⟩
    walk_at "nf"
    have q : Crs.pos ⟨c.first, kept (now + wait) c.fades⟩ (now + wait) 1 = look c.first (now + wait) 1 (kept (now + wait) c.fades).reverse := rfl
    rw [q]
    have kk : c.tell now wait rise fall fin = ⟨c.first, kept (now + wait) c.fades ++ [⟨now + wait, look c.first (now + wait) 1 (kept (now + wait) c.fades).reverse, fin, if look c.first (now + wait) 1 (kept (now + wait) c.fades).reverse < fin then rise else fall⟩]⟩ := rfl
    rw [kk] at k
    generalize look c.first (now + wait) 1 (kept (now + wait) c.fades).reverse = s at k ⊢
    walk_at "rds"
    refine ⟨fun σ' H' => ∃ y : Int, σ' = [some (.ref p), some (.int now), some (.int wait), some (.int rise), some (.int fall), some (.int fin), some (.int (now + wait)), some (.int s), some (.int y), none] ∧ y = (if s < fin then rise else fall) ∧ H' = upd H1 p (.ins (cC K) dx (cflds c.first D)), ?_, ?_⟩
    · walk_at "rds"
      walk_at "ri" <;> intro c1
      · rw [if_pos c1]
        walk_at "rds"
        rfl
      · rw [if_neg c1]
        walk_at "rds"
        rfl
    rintro σ' H' ⟨y, rfl, hy, rfl⟩
    refine ⟨_, rfl, p, cC K, dx, _, _, rfl, upd_same, cls_Course T, na_Course_fades T, cf_fades _ _, Or.inl ⟨rfl, _, SqL.of (by rw [upd_ne hpD]; exact hacc)⟩, ?_⟩
    walk_at "rds"
    intro t ht
    have ht1 : H1 t = none := by
      by_cases e : t = p
      · rw [e, upd_same] at ht
        cases ht
      · rw [upd_ne e] at ht
        exact ht
    have ntp : p ≠ t := ne_of_none (s1 _ _ h1) ht1
    have ntD : D ≠ t := ne_of_none hacc ht1
    refine ⟨D, acc.map V.ref, .ref t, rfl, rfl, ?_, ?_, ?_⟩
    · rw [upd_ne ntD, upd_ne hpD]
      exact hacc
    · rw [List.length_map]
      exact Nat.lt_of_le_of_lt (show acc.length ≤ 1000 by omega) (by decide)
    rw [← hy] at k
    refine k _ D hD ⟨dx, acc ++ [t], ?_, ?_, ?_⟩ ?_
    · rw [upd_ne npD, upd_ne ntp, upd_same]
    · rw [upd_same, List.map_append]
      rfl
    · refine TupsAt.snoc ?_ ?_
      · refine hta.mono fun u xs e => ?_
        rw [upd_ne (ne_of_none e hD), upd_ne (ne_of_none (s1 _ _ e) ht1)]
        exact hT u xs e
      · rw [upd_ne ntD.symm, upd_same]
        rfl
    · intro b o e hb
      rw [upd_ne (ne_of_none e hD), upd_ne (ne_of_none (s1 _ _ e) ht1), upd_ne hb]
      exact s1 _ _ e
/-! ### the law's small helpers -/
def spCell (K : PySem.W.Frag) : Sp := fun vs H Q _ => ∃ (a : Addr) (k : Int), vs = [.ref a, .int k] ∧ (∃ ns : List Int, SqL K H a (ns.map V.int)) ∧ 0 ≤ k ∧ ∀ r : Int, Q (.int r) H
theorem ok_l_cell_at (T : Txt K mg) : ∃ fd, FnOk P w K mg base CX0 1 (He.fAd K ("_law_cell_at", none)) fd ["_law_script", "_law_k"] (spCell K) ∧ FunD K "_law_cell_at" "_law_cell_at" (defArgs s_l_cell_at) (defBody s_l_cell_at) (defScope s_l_cell_at) [] [] (He.fAd K ("_law_cell_at", none)) fd := by
  obtain ⟨fd, F⟩ := T.c.def_ 6 (d := d_l_cell_at) rfl
  refine ⟨fd, F.ok sc_l_cell_at (by walk_at "g94len") (fun cdv A outer st H vs Q E hr h => ?_), F⟩
  · obtain ⟨a, i, rfl, ⟨ns, hS⟩, i0, k⟩ := h
    refine ⟨_, PSs.nox (pss_cons (ps_if (pt_cmpR op_lt (pv 1) (pe_callB call_len_seq (by rfl) (free_len T) (by decide +kernel) (pa_cons (pv 0) pa_nil)) (nomark _)) (pss_one (ps_ret (pe_ix ix_list (pv 0) (pv 1) (fun _ _ => rfl)))) pss_nil)
        (pss_one (ps_ret pe_int))), ?_⟩
    walk_at "rds"
    refine ⟨_, _, rfl, .inl hS, ?_⟩
    walk_at "rds"
    walk_at "ri" <;> intro c1
    · obtain ⟨v, hv, hv2⟩ := atI_lt i0 c1
      obtain ⟨z, rfl, _, _⟩ := int_at hv2
      walk_at "rds"
      exact ⟨_, _, _, _, rfl, rfl, hS, hv, k _⟩
    · walk_at "rds"
      exact k _

/-! ### the draws -/
def spDraw : Sp := fun vs H Q _ => ∃ c p : Int, vs = [.int c, .int p] ∧ 0 ≤ p ∧ p ≤ 1000 ∧ ∀ r : Int, 0 ≤ r → r < 2147483648 → Q (.int r) H
theorem ok_l_draw (T : Txt K mg) : ∃ fd, FnOk P w K mg base CX0 1 (He.fAd K ("_law_draw", none)) fd ["_law_cell", "_law_place"] spDraw ∧ FunD K "_law_draw" "_law_draw" (defArgs s_l_draw) (defBody s_l_draw) (defScope s_l_draw) [] [] (He.fAd K ("_law_draw", none)) fd := by
  obtain ⟨fd, F⟩ := T.c.def_ 8 (d := d_l_draw) rfl
  refine ⟨fd, F.ok sc_l_draw (by walk_at "g94len") (fun cdv A outer st H vs Q E hr h => ?_), F⟩
  · obtain ⟨c, p, rfl, p0, p1, k⟩ := h
    refine ⟨_, PSs.nox (pss_cons (ps_set (i := 2) sc_l_draw.nd rfl (Or.inl rfl) (pe_op op_shr (pv 0) (pe_op op_add pe_int (pe_op op_mul pe_int (pe_op op_mod (pv 1) pe_int)))))
        (pss_cons (ps_if (PW.pt (pw_and (pt_cmpR op_eq (pe_op op_mod (pv 0) pe_int) pe_int (nomark _)) (pw_and1 (pt_cmpR op_ne (pv 2) pe_int (nomark _))))) (pss_one (ps_ret (pe_op op_mod (pv 2) pe_int))) pss_nil)
        (pss_cons (ps_set (i := 3) sc_l_draw.nd rfl (Or.inl rfl) (pe_op op_mod (pe_op op_mul (pe_op op_add (pe_op op_mod (pe_op op_fdiv (pv 0) pe_int) (pe_powC (v := 1000000000000000000000000000000) (by rfl) (by decide +kernel))) pe_int) (pe_op op_add pe_int (pe_op op_mul (pe_op op_mul pe_int (pv 1)) (pv 1)))) pe_int))
        (pss_one (ps_ret (pe_op op_mod (pe_op op_mul (pv 3) (pv 3)) pe_int)))))), ?_⟩
    have hp2 : 0 ≤ 7919 * p * p ∧ 7919 * p * p ≤ 7919000000 := by
      have h1 : 0 ≤ 7919 * p := by omega
      have h2 := Int.mul_nonneg h1 p0
      have h3 := Int.mul_le_mul (show 7919 * p ≤ 7919000 by omega) p1 p0 (by decide)
      omega
    walk_at "rds"
    walk_at "ri" <;> intro c1
    · walk_at "rds"
      walk_at "ri" <;> intro c2
      · walk_at "rds"
        exact k _ (by omega) (by omega)
      · walk_at "rds"
        exact k _ (by omega) (by omega)
    · walk_at "rds"
      exact k _ (by omega) (by omega)
def spFar : Sp := fun vs H Q _ => ∃ c p : Int, vs = [.int c, .int p] ∧ 0 ≤ p ∧ p ≤ 900 ∧ ∀ r : Int, 0 ≤ r → r < 9903520314283042199192993792 → Q (.int r) H
theorem ok_l_far (T : Txt K mg) : ∃ fd, FnOk P w K mg base CX0 2 (He.fAd K ("_law_far", none)) fd ["_law_cell", "_law_place"] spFar ∧ FunD K "_law_far" "_law_far" (defArgs s_l_far) (defBody s_l_far) (defScope s_l_far) [] [] (He.fAd K ("_law_far", none)) fd := by
  obtain ⟨fd, F⟩ := T.c.def_ 9 (d := d_l_far) rfl
  obtain ⟨fd_l_draw, G_l_draw, F_l_draw⟩ := ok_l_draw (P := P) (w := w) (base := base) T
  have kp_l_draw := F_l_draw.kp
  have b_l_draw : Binds K fd_l_draw ["_law_cell", "_law_place"] [] := FunD.bindsN F_l_draw (fun _ _ _ _ _ _ us hl => match us, hl with | [_, _], _ => rfl)
  refine ⟨fd, F.ok sc_l_far (by walk_at "g94len") (fun cdv A outer st H vs Q E hr h => ?_), F⟩
  · obtain ⟨c, p, rfl, p0, p1, k⟩ := h
    refine ⟨_, PSs.nox (pss_cons (ps_set (i := 2) sc_l_far.nd rfl (Or.inl rfl) (pe_op op_add (pe_op op_mul (pe_call G_l_draw (hr.mono (by decide)) rfl (glo__law_draw T) kp_l_draw b_l_draw .nil pass0 (pa_cons (pv 0) (pa_cons (pv 1) pa_nil))) pe_int) (pe_call G_l_draw (hr.mono (by decide)) rfl (glo__law_draw T) kp_l_draw b_l_draw .nil pass0 (pa_cons (pv 0) (pa_cons (pe_op op_add (pv 1) pe_int) pa_nil)))))
        (pss_one (ps_ret (pe_op op_add (pe_op op_mul (pv 2) pe_int) (pe_call G_l_draw (hr.mono (by decide)) rfl (glo__law_draw T) kp_l_draw b_l_draw .nil pass0 (pa_cons (pv 0) (pa_cons (pe_op op_add (pv 1) pe_int) pa_nil))))))), ?_⟩
    walk_at "rds"
    intro r0 h0 h0'
    walk_at "rds"
    intro r1 h1 h1'
    walk_at "rds"
    intro r2 h2 h2'
    walk_at "rds"
    exact k _ (by omega) (by omega)
def spWhole : Sp := fun vs H Q _ => ∃ n : Int, vs = [.int n] ∧ Q (.bl true) H
theorem ok_l_whole (T : Txt K mg) : ∃ fd, FnOk P w K mg base CX0 1 (He.fAd K ("_law_whole", none)) fd ["_law_found"] spWhole ∧ FunD K "_law_whole" "_law_whole" (defArgs s_l_whole) (defBody s_l_whole) (defScope s_l_whole) [] [] (He.fAd K ("_law_whole", none)) fd := by
  obtain ⟨fd, F⟩ := T.c.def_ 7 (d := d_l_whole) rfl
  refine ⟨fd, F.ok sc_l_whole (by walk_at "g94len") (fun cdv A outer st H vs Q E hr h => ?_), F⟩
  · obtain ⟨n, rfl, k⟩ := h
    refine ⟨_, PSs.nox (pss_one (ps_ret (pe_and (pe_callB call_isi (by rfl) (free_isinstance T) (by decide +kernel) (pa_cons (pv 0) (pa_cons (pe_bltn (v := .ty "int") (by rfl) (free_int T) (by decide +kernel) rfl) pa_nil))) (pe_one (pe_not (pe_callB call_isi (by rfl) (free_isinstance T) (by decide +kernel) (pa_cons (pv 0) (pa_cons (pe_bltn (v := .ty "bool") (by rfl) (free_bool T) (by decide +kernel) rfl) pa_nil)))))))), ?_⟩
    walk_at "rds"
    exact k

/-! ### the plain law -/
theorem stand_mid {s e l t b : Int} (hl : 0 ≤ l) (hb : 1 ≤ b) : (s ≤ stand s e l t b ∨ e ≤ stand s e l t b) ∧ (stand s e l t b ≤ s ∨ stand s e l t b ≤ e) := by
  unfold stand
  by_cases c1 : t < 0
  · rw [if_pos c1]
    exact ⟨.inl (Int.le_refl _), .inl (Int.le_refl _)⟩
  rw [if_neg c1]
  by_cases c2 : b * l ≤ t
  · rw [if_pos c2]
    exact ⟨.inr (Int.le_refl _), .inr (Int.le_refl _)⟩
  rw [if_neg c2]
  have hp : 0 < b * l := by omega
  have hw : 0 ≤ way s e := by
    unfold way
    split <;> omega
  have g0 : 0 ≤ way s e * t / (b * l) := Int.ediv_nonneg (Int.mul_nonneg hw (by omega)) (by omega)
  have g1 : way s e * t / (b * l) ≤ way s e := by
    have h2 : way s e * t ≤ way s e * (b * l) := Int.mul_le_mul_of_nonneg_left (by omega) hw
    have h3 : way s e * t / (b * l) * (b * l) ≤ way s e * t := Int.ediv_mul_le _ (by omega)
    exact Int.le_of_mul_le_mul_right (Int.le_trans h3 h2) hp
  generalize way s e * t / (b * l) = g at g0 g1 ⊢
  unfold way at g1
  by_cases c3 : e < s
  · rw [if_pos c3]
    split at g1 <;> omega
  · rw [if_neg c3]
    split at g1 <;> omega
/-- all that a course knows lies between -/
structure Bd (c : Crs) (es : List Int) : Prop where
  lo : ∀ m : Int, (∀ y ∈ es, m ≤ y) → m ≤ c.first ∧ ∀ f ∈ c.fades, m ≤ f.start ∧ m ≤ f.fin
  hi : ∀ m : Int, (∀ y ∈ es, y ≤ m) → c.first ≤ m ∧ ∀ f ∈ c.fades, f.start ≤ m ∧ f.fin ≤ m
theorem look_ge {first t b m : Int} (h0 : m ≤ first) (hb : 1 ≤ b) : ∀ {fs : List Fade}, (∀ f ∈ fs, f.Good) → (∀ f ∈ fs, m ≤ f.start ∧ m ≤ f.fin) → m ≤ look first t b fs
  | [], _, _ => h0
  | f :: r, hg, h => by
    by_cases c : f.out * b ≤ t
    · rw [look_yes c]
      have h1 := h f List.mem_cons_self
      have h2 := (stand_mid (s := f.start) (e := f.fin) (t := t - f.out * b) (hg f List.mem_cons_self).l.1 hb).1
      omega
    · rw [look_no c]
      exact look_ge h0 hb (fun g q => hg g (List.mem_cons_of_mem _ q)) fun g q => h g (List.mem_cons_of_mem _ q)
theorem look_le {first t b m : Int} (h0 : first ≤ m) (hb : 1 ≤ b) : ∀ {fs : List Fade}, (∀ f ∈ fs, f.Good) → (∀ f ∈ fs, f.start ≤ m ∧ f.fin ≤ m) → look first t b fs ≤ m
  | [], _, _ => h0
  | f :: r, hg, h => by
    by_cases c : f.out * b ≤ t
    · rw [look_yes c]
      have h1 := h f List.mem_cons_self
      have h2 := (stand_mid (s := f.start) (e := f.fin) (t := t - f.out * b) (hg f List.mem_cons_self).l.1 hb).2
      omega
    · rw [look_no c]
      exact look_le h0 hb (fun g q => hg g (List.mem_cons_of_mem _ q)) fun g q => h g (List.mem_cons_of_mem _ q)
theorem mem_rev {α : Type} {P : α → Prop} {l : List α} (h : ∀ f ∈ l, P f) : ∀ f ∈ l.reverse, P f := fun f q => h f (List.mem_reverse.mp q)
theorem Bd.ge {c : Crs} {es : List Int} (h : Bd c es) (hg : c.Good) {t b m : Int} (hb : 1 ≤ b) (hm : ∀ y ∈ es, m ≤ y) : m ≤ c.pos t b :=
  look_ge (h.lo m hm).1 hb (mem_rev hg.fs) (mem_rev (h.lo m hm).2)
theorem Bd.le {c : Crs} {es : List Int} (h : Bd c es) (hg : c.Good) {t b m : Int} (hb : 1 ≤ b) (hm : ∀ y ∈ es, y ≤ m) : c.pos t b ≤ m :=
  look_le (h.hi m hm).1 hb (mem_rev hg.fs) (mem_rev (h.hi m hm).2)
theorem kept_mem {o : Int} {fs : List Fade} {P : Fade → Prop} (h : ∀ f ∈ fs, P f) : ∀ f ∈ kept o fs, P f := fun f q => h f (List.mem_filter.mp q).1
theorem Bd.tell {c : Crs} {es : List Int} (h : Bd c es) (hg : c.Good) {now wait rise fall fin : Int} : Bd (c.tell now wait rise fall fin) (es ++ [fin]) := by
  refine ⟨fun m hm => ?_, fun m hm => ?_⟩
  · have h1 := h.lo m fun y hy => hm y (List.mem_append_left _ hy)
    have h2 := hm fin (List.mem_append_right _ (List.mem_singleton.mpr rfl))
    refine ⟨h1.1, fun f hf => ?_⟩
    rcases List.mem_append.mp hf with q | q
    · exact kept_mem h1.2 f q
    · have e := List.mem_singleton.mp q
      subst e
      exact ⟨look_ge h1.1 (by decide) (mem_rev (kept_good hg.fs)) (mem_rev (kept_mem h1.2)), h2⟩
  · have h1 := h.hi m fun y hy => hm y (List.mem_append_left _ hy)
    have h2 := hm fin (List.mem_append_right _ (List.mem_singleton.mpr rfl))
    refine ⟨h1.1, fun f hf => ?_⟩
    rcases List.mem_append.mp hf with q | q
    · exact kept_mem h1.2 f q
    · have e := List.mem_singleton.mp q
      subst e
      exact ⟨look_le h1.1 (by decide) (mem_rev (kept_good hg.fs)) (mem_rev (kept_mem h1.2)), h2⟩
theorem look_filter {first o t b : Int} (h : ∀ f : Fade, ¬ f.out < o → ¬ f.out * b ≤ t) : ∀ l : List Fade, look first t b (l.filter fun f => decide (f.out < o)) = look first t b l
  | [] => rfl
  | f :: r => by
    by_cases c : f.out < o
    · rw [List.filter_cons, if_pos (decide_eq_true c)]
      by_cases d : f.out * b ≤ t
      · rw [look_yes d, look_yes d]
      · rw [look_no d, look_no d, look_filter h r]
    · rw [List.filter_cons, if_neg (by rw [decide_eq_false c]; exact Bool.false_ne_true), look_no (h f c), look_filter h r]
theorem tell_past {c : Crs} {now wait rise fall fin t b : Int} (hw : 0 ≤ wait) (hb : 1 ≤ b) (ht : t < now * b) : (c.tell now wait rise fall fin).pos t b = c.pos t b := by
  have far : ∀ o : Int, now ≤ o → ¬ o * b ≤ t := fun o ho => by
    have := Int.mul_le_mul_of_nonneg_right ho (show (0 : Int) ≤ b by omega)
    omega
  show look c.first t b (kept (now + wait) c.fades ++ [_]).reverse = look c.first t b c.fades.reverse
  rw [List.reverse_append]
  show look c.first t b (_ :: (kept (now + wait) c.fades).reverse) = _
  refine (look_no (far (now + wait) (by omega))).trans ?_
  unfold kept
  rw [← List.filter_reverse]
  exact look_filter (fun f hf => far _ (by omega)) _
theorem tell_aim {c : Crs} {now wait rise fall fin : Int} : (c.tell now wait rise fall fin).aim = fin := by
  unfold Crs.aim Crs.tell
  rw [List.getLast?_append]
  rfl
theorem last_at {c : Crs} (hg : c.Good) {d : Int} (hd : 0 ≤ d) : c.pos (c.still + d) 1 = c.aim := by
  rcases List.eq_nil_or_concat c.fades with e | ⟨l, f, e⟩
  · unfold Crs.pos Crs.aim
    rw [e]
    rfl
  · rw [List.concat_eq_append] at e
    have hl := (hg.fs f (by rw [e]; exact List.mem_append_right _ (List.mem_singleton.mpr rfl))).l.1
    have e1 : c.still = f.out + f.len := by
      unfold Crs.still
      rw [e, List.getLast?_append]
      rfl
    have e2 : c.aim = f.fin := by
      unfold Crs.aim
      rw [e, List.getLast?_append]
      rfl
    rw [e1, e2]
    unfold Crs.pos
    rw [e, List.reverse_append]
    show look c.first _ 1 (f :: l.reverse) = _
    rw [look_yes (by omega)]
    unfold stand
    rw [if_neg (by omega), if_pos (by omega)]
def HeldAt (H : Hp) (us : List Addr) (c : Crs) (now : Int) : Prop := ∀ u ∈ us, ∃ t b : Int, H u = some (.tup [.int t, .int b, .int (c.pos t b)]) ∧ t < now * b ∧ 1 ≤ b ∧ b ≤ 1000000
theorem HeldAt.mono {H H' : Hp} {us : List Addr} {c : Crs} {now : Int} (h : HeldAt H us c now) (e : ∀ t xs, H t = some (.tup xs) → H' t = some (.tup xs)) : HeldAt H' us c now := fun u hu => by
  obtain ⟨t, b, h1, h2⟩ := h u hu
  exact ⟨t, b, e _ _ h1, h2⟩
theorem HeldAt.later {H : Hp} {us : List Addr} {c : Crs} {now now' : Int} (h : HeldAt H us c now) (e : now ≤ now') : HeldAt H us c now' := fun u hu => by
  obtain ⟨t, b, h1, h2, h3, h4⟩ := h u hu
  have := Int.mul_le_mul_of_nonneg_right e (show (0 : Int) ≤ b by omega)
  exact ⟨t, b, h1, by omega, h3, h4⟩
theorem HeldAt.tell {H : Hp} {us : List Addr} {c : Crs} {now wait rise fall fin : Int} (h : HeldAt H us c now) (hw : 0 ≤ wait) : HeldAt H us (c.tell now wait rise fall fin) now := fun u hu => by
  obtain ⟨t, b, h1, h2, h3, h4⟩ := h u hu
  exact ⟨t, b, by rw [tell_past hw h3 h2]; exact h1, h2, h3, h4⟩
theorem HeldAt.app {H : Hp} {us vs : List Addr} {c : Crs} {now : Int} (h : HeldAt H us c now) (h' : HeldAt H vs c now) : HeldAt H (us ++ vs) c now := fun u hu => (List.mem_append.mp hu).elim (h u) (h' u)
def spHeld (K : PySem.W.Frag) : Sp := fun vs H Q _ => ∃ (x : Addr) (now cell : Int) (pe : Addr), vs = [.ref x, .int now, .int cell, .ref pe] ∧ ∃ (c : Crs) (es : List Int), CrsAt K H x c ∧ c.Good ∧ Bd c es ∧ SqL K H pe (es.map V.int) ∧ 0 < es.length ∧ 0 < now ∧
  ∀ (p : Addr) (us : List Addr) (H' : Hp), Same H H' → H p = none → us.length ≤ 4 → H' p = some (.lst (us.map V.ref)) → HeldAt H' us c now → Q (.ref p) H'
theorem ok_l_held (T : Txt K mg) : ∃ fd, FnOk P w K mg base CX0 3 (He.fAd K ("_law_held", none)) fd ["_law_course", "_law_now", "_law_cell", "_law_ends"] (spHeld K) ∧ FunD K "_law_held" "_law_held" (defArgs s_l_held) (defBody s_l_held) (defScope s_l_held) [] [] (He.fAd K ("_law_held", none)) fd := by
  obtain ⟨fd, F⟩ := T.c.def_ 10 (d := d_l_held) rfl
  obtain ⟨fd_l_far, G_l_far, F_l_far⟩ := ok_l_far (P := P) (w := w) (base := base) T
  have kp_l_far := F_l_far.kp
  have b_l_far : Binds K fd_l_far ["_law_cell", "_law_place"] [] := FunD.bindsN F_l_far (fun _ _ _ _ _ _ us hl => match us, hl with | [_, _], _ => rfl)
  obtain ⟨fd_Course_at, G_Course_at, F_Course_at⟩ := ok_Course_at (P := P) (w := w) (base := base) T
  have kp_Course_at := F_Course_at.kp
  obtain ⟨d0_Course_at, v0_Course_at, b0_Course_at⟩ : ∃ ds, Vals ([V.int 1].drop 1) ds ∧ Binds K fd_Course_at ["self", "top", "bottom"] ds := F_Course_at.binds1 3 1 (by decide) rfl (fun _ _ _ _ _ _ _ us its h1 h2 => match us, its, h1, h2 with | [_, _, _], [_], _, _ => ⟨_, rfl, rfl⟩)
  obtain ⟨fd_l_draw, G_l_draw, F_l_draw⟩ := ok_l_draw (P := P) (w := w) (base := base) T
  have kp_l_draw := F_l_draw.kp
  have b_l_draw : Binds K fd_l_draw ["_law_cell", "_law_place"] [] := FunD.bindsN F_l_draw (fun _ _ _ _ _ _ us hl => match us, hl with | [_, _], _ => rfl)
  obtain ⟨fd_l_whole, G_l_whole, F_l_whole⟩ := ok_l_whole (P := P) (w := w) (base := base) T
  have kp_l_whole := F_l_whole.kp
  have b_l_whole : Binds K fd_l_whole ["_law_found"] [] := FunD.bindsN F_l_whole (fun _ _ _ _ _ _ us hl => match us, hl with | [_], _ => rfl)
  refine ⟨fd, F.ok sc_l_held (by walk_at "g94len") (fun cdv A outer st H vs Q E hr h => ?_), F⟩
  · obtain ⟨x, now, cell, pe, rfl, c, es, hc, hg, hb, hE, he0, hn, k⟩ := h
    obtain ⟨dx, lf, ts, o1, _, _⟩ := hc.ob
    refine ⟨_, PSs.nox (pss_cons (ps_set (i := 4) sc_l_held.nd rfl (Or.inl rfl) (pe_lst pa_nil))
        (pss_cons (ps_set (i := 5) sc_l_held.nd rfl (Or.inl rfl) (pe_op op_add pe_int (pe_op op_mod (pe_call G_l_draw (hr.mono (by decide)) rfl (glo__law_draw T) kp_l_draw b_l_draw .nil pass0 (pa_cons (pv 2) (pa_cons pe_int pa_nil))) (pe_powC (v := 1000000) (by rfl) (by decide +kernel)))))
        (pss_cons (ps_set (i := 6) sc_l_held.nd rfl (Or.inl rfl) (pe_lst (pa_cons (pe_op op_sub (pe_op op_mul (pv 1) (pv 5)) pe_int) (pa_cons (pe_op op_sub (pe_op op_mul (pv 1) (pv 5)) (pv 5)) (pa_cons (pe_call G_l_far (hr.mono (by decide)) rfl (glo__law_far T) kp_l_far b_l_far .nil pass0 (pa_cons (pv 2) (pa_cons pe_int pa_nil))) (pa_cons (pe_op op_mul (pe_call G_l_draw (hr.mono (by decide)) rfl (glo__law_draw T) kp_l_draw b_l_draw .nil pass0 (pa_cons (pv 2) (pa_cons pe_int pa_nil))) (pv 5)) pa_nil))))))
        (pss_cons (ps_for PassesOwn.never rfl (pi_range1 rfl (free_range T) (pa_cons pe_int pa_nil)) (pg_name (i := 7) sc_l_held.nd rfl (Or.inl rfl)) (pss_cons (ps_set (i := 8) sc_l_held.nd rfl (Or.inl rfl) (pe_op op_mod (pe_ix ix_list (pv 6) (pv 7) (fun _ _ => rfl)) (pe_op op_mul (pv 1) (pv 5))))
        (pss_cons (ps_set (i := 9) sc_l_held.nd rfl (Or.inl rfl) (pe_meth (pv 0) (cls_Course T) (m_Course_at T) G_Course_at (hr.mono (by decide)) b0_Course_at v0_Course_at pass0 (pa_cons (pv 8) (pa_cons (pv 5) pa_nil))))
        (pss_cons (ps_if (PW.pt (pw_or (pt_not (pt_val (pe_call G_l_whole (hr.mono (by decide)) rfl (glo__law_whole T) kp_l_whole b_l_whole .nil pass0 (pa_cons (pv 9) pa_nil)))) (pw_or (pt_cmpR op_lt (pv 9) (pe_callB (cr_min rfl) (by rfl) (free_min T) (by decide +kernel) (pa_cons (pv 3) pa_nil)) (nomark _)) (pw_or1 (pt_cmpR op_gt (pv 9) (pe_callB (cr_max rfl) (by rfl) (free_max T) (by decide +kernel) (pa_cons (pv 3) pa_nil)) (nomark _)))))) (pss_one (ps_ret pe_non)) pss_nil)
        (pss_one (ps_expr (pe_bm PySem.F.plainAttrs_list PySem.F.slot_list_append PySem.F.type_list_append mt_append (pv 4) (pa_cons (pe_tup (pa_cons (pv 8) (pa_cons (pv 5) (pa_cons (pv 9) pa_nil)))) pa_nil))))))))
        (pss_one (ps_ret (pv 4))))))), ?_⟩
    walk_at "rds"
    intro p hp
    have sp := (Same.refl H).new (o := HO.lst []) hp
    walk_at "rds"
    intro r hr0 hr1
    walk_at "rds"
    intro r1 a1 b1
    walk_at "rds"
    intro r2 a2 b2
    walk_at "rds"
    intro p2 hp2
    have hbt : 1 ≤ 1 + r % 1000000 ∧ 1 + r % 1000000 ≤ 1000000 := by omega
    walk_at "nf"
    generalize 1 + r % 1000000 = b at hbt ⊢
    have hnb : 0 < now * b := Int.mul_pos hn (by omega)
    have hb64 : -(2 ^ 64) < b ∧ b < 2 ^ 64 := by omega
    clear hr0 hr1
    generalize now * b - 1 = x1
    generalize now * b - b = x2
    generalize r2 * b = x4
    have hpp : p ≠ p2 := ne_of_none upd_same hp2
    have s2 := sp.new (o := HO.lst ([x1, x2, r1, x4].map V.int)) hp2
    have q2 : upd (upd H p (HO.lst [])) p2 (HO.lst ([x1, x2, r1, x4].map V.int)) p2 = some (HO.lst ([x1, x2, r1, x4].map V.int)) := upd_same
    have q1 : upd (upd H p (HO.lst [])) p2 (HO.lst ([x1, x2, r1, x4].map V.int)) p = some (HO.lst []) := by rw [upd_ne hpp, upd_same]
    simp only [List.map_cons, List.map_nil] at s2 q1 q2
    generalize upd (upd H p (HO.lst [])) p2 (HO.lst [V.int x1, V.int x2, V.int r1, V.int x4]) = H2 at s2 q1 q2 ⊢
    clear sp hp2
    walk_at "rds"
    refine for_range (lo := 0) (n := 4) (fun i σ' H' => ∃ (v7 v8 v9 : Option V) (us : List Addr), σ' = [some (.ref x), some (.int now), some (.int cell), some (.ref pe), some (.ref p), some (.int b), some (.ref p2), v7, v8, v9] ∧ us.length ≤ i ∧ H' p = some (.lst (us.map V.ref)) ∧ H' p2 = some (.lst ([x1, x2, r1, x4].map V.int)) ∧ HeldAt H' us c now ∧ Same H H')
      ⟨_, _, _, [], rfl, Nat.le_refl _, q1, q2, (fun u hu => by cases hu), s2⟩ ?_ ?_
    · rintro i σ' H' hi ⟨v7, v8, v9, us, rfl, hul, hp1, hp2, hh, s⟩
      obtain ⟨v, hv⟩ := at4 (a := x1) (b := x2) (c := r1) (d := x4) (k := 0 + (i : Int)) (by omega) (by omega)
      refine ⟨_, rfl, _, rfl, _, _, _, _, rfl, rfl, SqL.of hp2, hv, _, rfl, _, rfl, _, _, rfl, rfl, .inr hb64, _, _, rfl, rfl, hnb, ?_⟩
      have htop : v % (now * b) < now * b := Int.emod_lt_of_pos v hnb
      walk_at "nf"
      generalize v % (now * b) = t at htop ⊢
      refine ⟨_, rfl, x, dx, _, rfl, s _ _ o1, cf_no _ _ (by decide +kernel) (by decide +kernel), _, rfl, _, rfl, x, c, t, b, rfl, hc.same s, hg, hbt.1, by omega, ?_⟩
      walk_at "rds"
      refine ⟨pe, es, rfl, s.seq hE, he0, fun m _ hm => ?_⟩
      walk_at "rds"
      refine iteDF (by have := hb.ge hg (t := t) hbt.1 hm; show ¬ c.pos t b < m; omega) ?_
      walk_at "rds"
      refine ⟨pe, es, rfl, s.seq hE, he0, fun m _ hm => ?_⟩
      walk_at "rds"
      refine iteDF (by have := hb.le hg (t := t) hbt.1 hm; show ¬ m < c.pos t b; omega) ?_
      refine ⟨_, rfl, .inl ⟨rfl, _, SqL.of hp1⟩, ?_⟩
      walk_at "rds"
      intro u hu
      refine ⟨p, us.map V.ref, .ref u, rfl, rfl, ?_, ?_, ?_⟩
      · rw [upd_ne (ne_of_none hp1 hu)]
        exact hp1
      · rw [List.length_map]
        exact Nat.lt_of_le_of_lt (show us.length ≤ 1000 by omega) (by decide)
      have kt : ∀ t' xs, H' t' = some (.tup xs) → upd (upd H' u (.tup [.int t, .int b, .int (c.pos t b)])) p (.lst (us.map V.ref ++ [.ref u])) t' = some (.tup xs) := fun t' xs q => by
        rw [upd_ne (ne_of q hp1 (by intro z; cases z)), upd_ne (ne_of_none q hu)]
        exact q
      refine ⟨_, _, _, us ++ [u], rfl, ?_, ?_, ?_, ?_, (s.new hu).mut hp⟩
      · rw [List.length_append]
        show us.length + 1 ≤ i + 1
        omega
      · rw [upd_same, List.map_append]
        rfl
      · rw [upd_ne hpp.symm, upd_ne (ne_of_none hp2 hu)]
        exact hp2
      · refine (hh.mono kt).app fun w hw => ?_
        have e := List.mem_singleton.mp hw
        rw [e]
        refine ⟨t, b, ?_, htop, hbt.1, hbt.2⟩
        rw [upd_ne (ne_of_none hp1 hu).symm, upd_same]
    · rintro σ' H' ⟨v7, v8, v9, us, rfl, hul, hp1, hp2, hh, s⟩
      exact ⟨_, rfl, k p us H' s hp hul hp1 hh⟩
structure LI (K : PySem.W.Frag) (x pe pk D ps : Addr) (ns ms : List Int) (n : Nat) (l : Addr) (c : Crs) (es : List Int) (us : List Addr) (now : Int) (H : Hp) : Prop where
  crs : CrsL K H x l c
  good : c.Good
  len : c.fades.length ≤ n
  bd : Bd c es
  last : es.getLast? = some c.aim
  he : H pe = some (.lst (es.map V.int))
  hk : H pk = some (.lst (us.map V.ref))
  held : HeldAt H us c now
  hd : H D = some (.lst (ns.map V.int))
  hs : H ps = some (.lst (ms.map V.int))
  ne1 : pe ≠ l
  ne2 : pe ≠ pk
  ne3 : pe ≠ D
  ne4 : pe ≠ ps
  now0 : 0 ≤ now
  el : es.length ≤ n + 1
section
variable {K : PySem.W.Frag} {x pe pk D ps l : Addr} {ns ms es : List Int} {n : Nat} {c : Crs} {us : List Addr} {now : Int} {H H' : Hp}
theorem LI.same (h : LI K x pe pk D ps ns ms n l c es us now H) (e : Same H H') : LI K x pe pk D ps ns ms n l c es us now H' :=
  ⟨h.crs.same e, h.good, h.len, h.bd, h.last, e _ _ h.he, e _ _ h.hk, h.held.mono fun t xs q => e _ _ q, e _ _ h.hd, e _ _ h.hs, h.ne1, h.ne2, h.ne3, h.ne4, h.now0, h.el⟩
theorem LI.later (h : LI K x pe pk D ps ns ms n l c es us now H) {now' : Int} (e : now ≤ now') : LI K x pe pk D ps ns ms n l c es us now' H :=
  ⟨h.crs, h.good, h.len, h.bd, h.last, h.he, h.hk, h.held.later e, h.hd, h.hs, h.ne1, h.ne2, h.ne3, h.ne4, Int.le_trans h.now0 e, h.el⟩
theorem LI.pos (h : LI K x pe pk D ps ns ms n l c es us now H) : 0 < es.length := by
  cases es with
  | nil => cases h.last
  | cons y r => exact Nat.succ_pos _
/-- a fade is told and its end noted -/
theorem LI.tell (h : LI K x pe pk D ps ns ms n l c es us now H) {H2 : Hp} {l2 : Addr} {wait rise fall fin : Int} (hw : 0 ≤ wait) (hr : Inr rise) (hf : Inr fall) (he : Inr fin) (hl : H l2 = none)
    (hc : CrsL K H2 x l2 (c.tell now wait rise fall fin)) (kp : ∀ b o, H b = some o → b ≠ x → H2 b = some o) : LI K x pe pk D ps ns ms (n + 1) l2 (c.tell now wait rise fall fin) (es ++ [fin]) us now (upd H2 pe (.lst ((es ++ [fin]).map V.int))) := by
  obtain ⟨dx, ts, o1, _, _⟩ := h.crs.ob
  have kl : ∀ (p : Addr) xs, H p = some (.lst xs) → H2 p = some (.lst xs) := fun p xs e => kp _ _ e (ne_of e o1 (by intro z; cases z))
  have kt : ∀ (p : Addr) xs, H p = some (.tup xs) → H2 p = some (.tup xs) := fun p xs e => kp _ _ e (ne_of e o1 (by intro z; cases z))
  have he2 := kl _ _ h.he
  have hlen := c.tell_len now wait rise fall fin
  have h1 := h.len
  have h2 := h.el
  have ku : ∀ (p : Addr) xs, pe ≠ p → H p = some (.lst xs) → upd H2 pe (.lst ((es ++ [fin]).map V.int)) p = some (.lst xs) := fun p xs e q => by
    rw [upd_ne (fun z => e z.symm)]
    exact kl _ _ q
  refine ⟨hc.lst he2 (ne_of_none h.he hl), h.good.tell hr hf he, by omega, h.bd.tell h.good, ?_, upd_same, ku _ _ h.ne2 h.hk, ?_, ku _ _ h.ne3 h.hd, ku _ _ h.ne4 h.hs, ne_of_none h.he hl, h.ne2, h.ne3, h.ne4, h.now0, ?_⟩
  · rw [List.getLast?_append, tell_aim]
    rfl
  · refine (h.held.tell hw).mono fun t xs q => ?_
    rw [upd_ne (ne_of (kt _ _ q) he2 (by intro z; cases z))]
    exact kt _ _ q
  · rw [List.length_append]
    show es.length + 1 ≤ _
    omega
/-- what is held is more -/
theorem LI.more (h : LI K x pe pk D ps ns ms n l c es us now H) {q : Addr} {us2 : List Addr} (hq : H q = none) (hh : HeldAt H us2 c now) : LI K x pe q D ps ns ms n l c es (us ++ us2) now (upd H q (.lst (us.map V.ref ++ us2.map V.ref))) := by
  have s := (Same.refl H).new (o := HO.lst (us.map V.ref ++ us2.map V.ref)) hq
  have h2 := h.same s
  exact ⟨h2.crs, h2.good, h2.len, h2.bd, h2.last, h2.he, by rw [upd_same, List.map_append], h2.held.app (hh.mono fun t xs e => s _ _ e), h2.hd, h2.hs, h2.ne1, ne_of_none h.he hq, h2.ne3, h2.ne4, h2.now0, h2.el⟩
end
def spLaw (K : PySem.W.Frag) : Sp := fun vs H Q _ => ∃ (a : Addr) (ns : List Int), vs = [.ref a] ∧ SqL K H a (ns.map V.int) ∧ ns.length ≤ 63 ∧ (∀ z ∈ ns, Builtin.Int.intBits z ≤ 1048576) ∧ Only H ∧ ∀ H', Q (.bl true) H'
theorem ok_law (T : Txt K mg) : ∃ fd, FnOk P w K mg base CX0 6 (He.fAd K ("law", none)) fd ["_law_script"] (spLaw K) ∧ FunD K "law" "law" (defArgs s_law) (defBody s_law) (defScope s_law) [] [] (He.fAd K ("law", none)) fd := by
  obtain ⟨fd, F⟩ := T.c.def_ 11 (d := d_law) rfl
  obtain ⟨fd_Course_init, G_Course_init, F_Course_init⟩ := ok_Course_init (P := P) (w := w) (base := base) T
  have kp_Course_init := F_Course_init.kp
  obtain ⟨d0_Course_init, v0_Course_init, b0_Course_init⟩ : ∃ ds, Vals ([V.int 0].drop 1) ds ∧ Binds K fd_Course_init ["self", "worth"] ds := F_Course_init.binds1 2 1 (by decide) rfl (fun _ _ _ _ _ _ _ us its h1 h2 => match us, its, h1, h2 with | [_, _], [_], _, _ => ⟨_, rfl, rfl⟩)
  obtain ⟨fd_Course_still, G_Course_still, F_Course_still⟩ := ok_Course_still (P := P) (w := w) (base := base) T
  have kp_Course_still := F_Course_still.kp
  have b_Course_still : Binds K fd_Course_still ["self"] [] := FunD.bindsN F_Course_still (fun _ _ _ _ _ _ us hl => match us, hl with | [_], _ => rfl)
  obtain ⟨fd_l_cell_at, G_l_cell_at, F_l_cell_at⟩ := ok_l_cell_at (P := P) (w := w) (base := base) T
  have kp_l_cell_at := F_l_cell_at.kp
  have b_l_cell_at : Binds K fd_l_cell_at ["_law_script", "_law_k"] [] := FunD.bindsN F_l_cell_at (fun _ _ _ _ _ _ us hl => match us, hl with | [_, _], _ => rfl)
  obtain ⟨fd_Course_tell, G_Course_tell, F_Course_tell⟩ := ok_Course_tell (P := P) (w := w) (base := base) T
  have kp_Course_tell := F_Course_tell.kp
  have b_Course_tell : Binds K fd_Course_tell ["self", "now", "wait", "rise", "fall", "end"] [] := FunD.bindsN F_Course_tell (fun _ _ _ _ _ _ us hl => match us, hl with | [_, _, _, _, _, _], _ => rfl)
  obtain ⟨fd_l_held, G_l_held, F_l_held⟩ := ok_l_held (P := P) (w := w) (base := base) T
  have kp_l_held := F_l_held.kp
  have b_l_held : Binds K fd_l_held ["_law_course", "_law_now", "_law_cell", "_law_ends"] [] := FunD.bindsN F_l_held (fun _ _ _ _ _ _ us hl => match us, hl with | [_, _, _, _], _ => rfl)
  obtain ⟨fd_Course_at, G_Course_at, F_Course_at⟩ := ok_Course_at (P := P) (w := w) (base := base) T
  have kp_Course_at := F_Course_at.kp
  obtain ⟨d0_Course_at, v0_Course_at, b0_Course_at⟩ : ∃ ds, Vals ([V.int 1].drop 1) ds ∧ Binds K fd_Course_at ["self", "top", "bottom"] ds := F_Course_at.binds1 3 1 (by decide) rfl (fun _ _ _ _ _ _ _ us its h1 h2 => match us, its, h1, h2 with | [_, _, _], [_], _, _ => ⟨_, rfl, rfl⟩)
  obtain ⟨d1_Course_at, v1_Course_at, b1_Course_at⟩ : ∃ ds, Vals ([V.int 1].drop 0) ds ∧ Binds K fd_Course_at ["self", "top", "bottom"] ds := F_Course_at.binds1 2 0 (by decide) rfl (fun _ _ _ _ _ _ _ us its h1 h2 => match us, its, h1, h2 with | [_, _], [_], _, _ => ⟨_, rfl, rfl⟩)
  obtain ⟨fd_l_whole, G_l_whole, F_l_whole⟩ := ok_l_whole (P := P) (w := w) (base := base) T
  have kp_l_whole := F_l_whole.kp
  have b_l_whole : Binds K fd_l_whole ["_law_found"] [] := FunD.bindsN F_l_whole (fun _ _ _ _ _ _ us hl => match us, hl with | [_], _ => rfl)
  obtain ⟨fd_Course_aim, G_Course_aim, F_Course_aim⟩ := ok_Course_aim (P := P) (w := w) (base := base) T
  have kp_Course_aim := F_Course_aim.kp
  have b_Course_aim : Binds K fd_Course_aim ["self"] [] := FunD.bindsN F_Course_aim (fun _ _ _ _ _ _ us hl => match us, hl with | [_], _ => rfl)
  obtain ⟨fd_l_draw, G_l_draw, F_l_draw⟩ := ok_l_draw (P := P) (w := w) (base := base) T
  have kp_l_draw := F_l_draw.kp
  have b_l_draw : Binds K fd_l_draw ["_law_cell", "_law_place"] [] := FunD.bindsN F_l_draw (fun _ _ _ _ _ _ us hl => match us, hl with | [_, _], _ => rfl)
  refine ⟨fd, F.ok sc_law (by walk_at "g94len") (fun cdv A outer st H vs Q E hr h => ?_), F⟩
  · obtain ⟨a, ns, rfl, hS, hlen, hbits, hO, k⟩ := h
    refine ⟨_, PSs.nox (pss_cons (ps_set (i := 0) sc_law.nd rfl (Or.inr rfl) (pe_lc (own := [("_law_cell", 8)]) (g := gName 8) rfl sc_law.nd (pi_list (pv 0)) (blkOk_by (own := [("_law_cell", 8)]) (N := ["_law_script", "_law_wide", "_law_most", "_law_first", "_law_ends", "_law_course", "_law_kept", "_law_now", "_law_cell", "_law_held_here", "_law_end", "_law_times", "_law_top", "_law_bottom", "_law_found", "_law_still", "_law_k"]) (sc := defScope s_law) (by decide +kernel)) (fun _ _ _ _ _ => pg_name (i := 8) sc_law.nd rfl (Or.inl rfl)) (fun _ _ _ _ _ => pts_nil) (fun _ _ _ _ _ => (pe_op op_add (pe_op op_mul pe_int (pv 8)) (pe_op op_mod (pe_callB (show CallR _ (.builtin "sum") (rSum K) from cr_sum rfl) (by rfl) (free_sum T) (by decide +kernel) (pa_cons (pe_slice (show SlR _ (rSlL K) from sl_list) (pv 0) po_none (po_some pe_int)) pa_nil)) pe_int)))))
        (pss_cons (ps_set (i := 1) sc_law.nd rfl (Or.inl rfl) (pe_op op_mod (pe_op op_fdiv (pe_call G_l_cell_at (hr.mono (by decide)) rfl (glo__law_cell_at T) kp_l_cell_at b_l_cell_at .nil pass0 (pa_cons (pv 0) (pa_cons pe_int pa_nil))) pe_int) pe_int))
        (pss_cons (ps_set (i := 2) sc_law.nd rfl (Or.inr rfl) (pe_ix ix_list (pe_lst (pa_cons pe_int (pa_cons (pe_op op_add (pe_powC (v := 1000000000) (by rfl) (by decide +kernel)) pe_int) pa_nil))) (pv 1) (fun _ _ => rfl)))
        (pss_cons (ps_set (i := 3) sc_law.nd rfl (Or.inl rfl) (pe_op op_mod (pe_call G_l_cell_at (hr.mono (by decide)) rfl (glo__law_cell_at T) kp_l_cell_at b_l_cell_at .nil pass0 (pa_cons (pv 0) (pa_cons pe_int pa_nil))) (pe_op op_add (pe_powC (v := 1000000000) (by rfl) (by decide +kernel)) pe_int)))
        (pss_cons (ps_set (i := 4) sc_law.nd rfl (Or.inl rfl) (pe_lst (pa_cons (pv 3) pa_nil)))
        (pss_cons (ps_set (i := 5) sc_law.nd rfl (Or.inl rfl) (pe_make (mk_Course T) G_Course_init (hr.mono (by decide)) rfl (glo_Course T) b0_Course_init v0_Course_init pass0 (pa_cons (pv 3) pa_nil)))
        (pss_cons (ps_set (i := 6) sc_law.nd rfl (Or.inl rfl) (pe_lst pa_nil))
        (pss_cons (ps_set (i := 7) sc_law.nd rfl (Or.inl rfl) pe_int)
        (pss_cons (ps_for PassesOwn.never rfl (pi_list (pe_slice sl_list (pv 0) po_none (po_some pe_int))) (pg_name (i := 8) sc_law.nd rfl (Or.inr rfl)) (pss_cons (ps_set (i := 7) sc_law.nd rfl (Or.inl rfl) (pe_op op_add (pv 7) (pe_op op_mod (pe_call G_l_draw (hr.mono (by decide)) rfl (glo__law_draw T) kp_l_draw b_l_draw .nil pass0 (pa_cons (pv 8) (pa_cons pe_int pa_nil))) (pe_ix ix_list (pe_lst (pa_cons pe_int (pa_cons (pe_op op_add (pe_powC (v := 1000000000) (by rfl) (by decide +kernel)) pe_int) pa_nil))) (pv 1) (fun _ _ => rfl)))))
        (C8.pss_cut (ps_if (pt_cmpR op_gt (pv 7) pe_int (nomark _)) (pss_cons (ps_set (i := 9) sc_law.nd rfl (Or.inl rfl) (pe_call G_l_held (hr.mono (by decide)) rfl (glo__law_held T) kp_l_held b_l_held .nil pass0 (pa_cons (pv 5) (pa_cons (pv 7) (pa_cons (pv 8) (pa_cons (pv 4) pa_nil))))))
        (pss_cons (ps_if (pt_cmpR op_isN (pv 9) pe_non (nomark _)) (pss_one (ps_ret pe_bl)) pss_nil)
        (pss_one (ps_set (i := 6) sc_law.nd rfl (Or.inl rfl) (pe_op op_cat (pv 6) (pv 9)))))) pss_nil)
        (pss_cons (ps_set (i := 10) sc_law.nd rfl (Or.inl rfl) (pe_op op_mod (pe_op op_fdiv (pe_call G_l_draw (hr.mono (by decide)) rfl (glo__law_draw T) kp_l_draw b_l_draw .nil pass0 (pa_cons (pv 8) (pa_cons pe_int pa_nil))) pe_int) (pe_ix ix_list (pe_lst (pa_cons pe_int (pa_cons (pe_op op_add (pe_powC (v := 1000000000) (by rfl) (by decide +kernel)) pe_int) pa_nil))) (pv 1) (fun _ _ => rfl))))
        (pss_cons (ps_setLc (i := 11) (own := [("_law_k", 16)]) (g := gName 16) rfl sc_law.nd rfl rfl (sw_true rfl rfl rfl (by decide +kernel)) (pi_range1 rfl (free_range T) (pa_cons pe_int pa_nil)) (blkOk_by (own := [("_law_k", 16)]) (N := ["_law_script", "_law_wide", "_law_most", "_law_first", "_law_ends", "_law_course", "_law_kept", "_law_now", "_law_cell", "_law_held_here", "_law_end", "_law_times", "_law_top", "_law_bottom", "_law_found", "_law_still", "_law_k"]) (sc := defScope s_law) (by decide +kernel)) (fun _ _ _ _ _ => pg_name (i := 16) sc_law.nd rfl (Or.inl rfl)) (fun _ _ _ _ _ => pts_nil) (fun _ _ _ _ _ => (pe_op op_mod (pe_op op_fdiv (pe_call G_l_draw (hr.mono (by decide)) rfl (glo__law_draw T) kp_l_draw b_l_draw .nil pass0 (pa_cons (pv 8) (pa_cons (pe_op op_add pe_int (pv 16)) pa_nil))) pe_int) (pv 2))))
        (pss_cons (ps_expr (pe_meth (pv 5) (cls_Course T) (m_Course_tell T) G_Course_tell (hr.mono (by decide)) b_Course_tell .nil pass0 (pa_cons (pv 7) (pa_cons (pe_ix ix_list (pv 11) pe_int (fun _ _ => rfl)) (pa_cons (pe_ix ix_list (pv 11) pe_int (fun _ _ => rfl)) (pa_cons (pe_ix ix_list (pv 11) pe_int (fun _ _ => rfl)) (pa_cons (pv 10) pa_nil)))))))
        (pss_one (ps_expr (pe_bm PySem.F.plainAttrs_list PySem.F.slot_list_append PySem.F.type_list_append mt_append (pv 4) (pa_cons (pv 10) pa_nil))))))))))
        (pss_cons (ps_for PassesOwn.never rfl (pi_list (pv 6)) (pg_tup rfl (pgs_cons (pg_name (i := 12) sc_law.nd rfl (Or.inl rfl)) (pgs_cons (pg_name (i := 13) sc_law.nd rfl (Or.inl rfl)) (pgs_cons (pg_name (i := 14) sc_law.nd rfl (Or.inl rfl)) pgs_nil)))) (pss_one (ps_if (pt_cmpR op_ne (pe_meth (pv 5) (cls_Course T) (m_Course_at T) G_Course_at (hr.mono (by decide)) b0_Course_at v0_Course_at pass0 (pa_cons (pv 12) (pa_cons (pv 13) pa_nil))) (pv 14) (nomark _)) (pss_one (ps_ret pe_bl)) pss_nil)))
        (pss_cons (ps_set (i := 15) sc_law.nd rfl (Or.inl rfl) (pe_meth0 (pv 5) (cls_Course T) (m_Course_still T) G_Course_still (hr.mono (by decide)) b_Course_still .nil pass0))
        (pss_cons (ps_if (PW.pt (pw_or (pt_not (pt_val (pe_call G_l_whole (hr.mono (by decide)) rfl (glo__law_whole T) kp_l_whole b_l_whole .nil pass0 (pa_cons (pv 15) pa_nil)))) (pw_or1 (pt_cmpR op_ne (pe_meth0 (pv 5) (cls_Course T) (m_Course_aim T) G_Course_aim (hr.mono (by decide)) b_Course_aim .nil pass0) (pe_ix ix_list (pv 4) pe_negC (fun _ _ => rfl)) (nomark _))))) (pss_one (ps_ret pe_bl)) pss_nil)
        (pss_one (ps_ret (pe_and (pe_cmpR op_eq (pe_meth (pv 5) (cls_Course T) (m_Course_at T) G_Course_at (hr.mono (by decide)) b1_Course_at v1_Course_at pass0 (pa_cons (pv 15) pa_nil)) (pe_ix ix_list (pv 4) pe_negC (fun _ _ => rfl)) (nomark _)) (pe_one (pe_cmpR op_eq (pe_meth (pv 5) (cls_Course T) (m_Course_at T) G_Course_at (hr.mono (by decide)) b1_Course_at v1_Course_at pass0 (pa_cons (pe_op op_add (pv 15) (pe_powC (v := 1000000000) (by rfl) (by decide +kernel))) pa_nil)) (pe_ix ix_list (pv 4) pe_negC (fun _ _ => rfl)) (nomark _)))))))))))))))))), ?_⟩
    walk_at "rds"
    refine fun D hD => lc_list (K := K) (a := a) (xs := ns.map V.int) (fun i H' => ∃ acc : List Int, H' D = some (.lst (acc.map V.int)) ∧ acc.length = i ∧ Same H H') ⟨[], upd_same, rfl, (Same.refl H).new hD⟩ (fun i H' _ ⟨_, _, _, s⟩ => s.seq hS) ?_ ?_
    · rintro i y H' hi ⟨acc, hacc, hl, s⟩
      obtain ⟨z, rfl, hz, hlt⟩ := int_at hi
      refine ⟨rfl, ?_⟩
      walk_at "rds"
      refine ⟨_, _, rfl, s.seq hS, fun p hp => ?_⟩
      obtain ⟨ms, e1, _, _⟩ := cut_ints ns none (some 1)
      rw [e1]
      refine ⟨_, ms, rfl, SqL.of upd_same, ?_⟩
      walk_at "rds"
      refine ⟨acc.map V.int, ?_, ?_, acc ++ [2 * z + ms.sum % 2], ?_, ?_, ?_⟩
      · rw [upd_ne (ne_of_none hacc hp)]
        exact hacc
      · rw [List.length_map]
        exact Nat.lt_of_lt_of_le (show acc.length < 100000 by omega) (by decide)
      · rw [upd_same, List.map_append]
        rfl
      · rw [List.length_append]
        show acc.length + 1 = i + 1
        omega
      · exact (s.new hp).mut hD
    rintro H1 ⟨ns1, hD1, hl1, s1⟩
    rw [List.length_map] at hl1

    have hS1 : SqL K H1 D (ns1.map V.int) := SqL.of hD1
    clear s1 hD hS hO hbits
    walk_at "rz"
    rename_i w0
    walk_at "nf"
    have hw : 0 ≤ w0 / 4 % 2 ∧ w0 / 4 % 2 < 2 := by omega
    generalize w0 / 4 % 2 = wide at hw ⊢
    intro p0 hp0
    obtain ⟨most, hv, hm⟩ := at2 (a := 13) (b := 1000000000 + 1) (k := wide) hw.1 hw.2
    have s0 := (Same.refl H1).new (o := HO.lst [V.int 13, V.int (1000000000 + 1)]) hp0
    have hS0 := s0.seq hS1
    have hD0 := s0 _ _ hD1
    refine ⟨_, rfl, _, _, _, _, rfl, rfl, SqL.of upd_same, hv, ?_⟩
    have hm2 : 0 < most ∧ most ≤ 1000000001 := by omega
    walk_at "nf"
    generalize upd H1 p0 (HO.lst [V.int 13, V.int (1000000000 + 1)]) = H2 at hS0 hD0 ⊢
    clear hp0 s0 hS1 hD1 hv hm
    walk_at "rz"
    rename_i z0
    walk_at "nf"
    have hz : 0 ≤ z0 % (1000000000 + 1) ∧ z0 % (1000000000 + 1) ≤ 1000000000 := by omega
    generalize z0 % (1000000000 + 1) = z at hz ⊢
    intro pe hpe
    have s3 := (Same.refl H2).new (o := HO.lst [V.int z]) hpe
    have he3 : upd H2 pe (HO.lst [V.int z]) pe = some (.lst ([z].map V.int)) := upd_same
    have hD3 := s3 _ _ hD0
    have ne3 : pe ≠ D := fun e => by
      rw [e] at hpe
      rw [hpe] at hD0
      cases hD0
    generalize upd H2 pe (HO.lst [V.int z]) = H3 at he3 hD3 ⊢
    clear hpe s3 hS0 hD0
    refine ⟨_, rfl, fun x dx hx hdx ne => ⟨x, dx, z, rfl, upd_same, fun H4 l hl nl hc kp => ⟨rfl, ?_⟩⟩⟩
    have s4 := made_same hx hdx kp
    have he4 := s4 _ _ he3
    have hD4 := s4 _ _ hD3
    have ne1 : pe ≠ l := by
      refine ne_of_none (H := H3) he3 ?_
      by_cases e1 : l = dx
      · rw [e1] at hl
        rw [upd_ne ne, upd_same] at hl
        cases hl
      · rw [upd_ne nl, upd_ne e1] at hl
        exact hl
    clear s4 kp hl nl he3 hD3
    refine ⟨small_size (Nat.le_of_ble_eq_true rfl), fun pk hpk => ?_⟩
    have s5 := (Same.refl H4).new (o := HO.lst []) hpk
    have ne2 : pe ≠ pk := ne_of_none he4 hpk
    refine ⟨_, rfl, _, rfl, D, _, rfl, SqL.of (s5 _ _ hD4), fun ps hps => ?_⟩
    obtain ⟨ms, em, hms, _⟩ := cut_ints ns1 none (some 60)
    rw [em]
    have s6 := s5.new (o := HO.lst (ms.map V.int)) hps
    have ne4 : pe ≠ ps := ne_of_none (s5 _ _ he4) hps
    have L0 : LI K x pe pk D ps ns1 ms 0 l ⟨z, []⟩ [z] [] 0 (upd (upd H4 pk (HO.lst [])) ps (HO.lst (ms.map V.int))) :=
      ⟨hc.same s6, ⟨⟨hz.1, Int.le_trans hz.2 (by decide)⟩, fun f hf => by cases hf⟩, Nat.le_refl _, ⟨fun m hm => ⟨hm z (by simp), fun f hf => by cases hf⟩, fun m hm => ⟨hm z (by simp), fun f hf => by cases hf⟩⟩, rfl, s6 _ _ he4,
        (by rw [upd_ne (ne_of_none upd_same hps), upd_same]; rfl), (fun u hu => by cases hu), s6 _ _ hD4, upd_same, ne1, ne2, ne3, ne4, Int.le_refl _, Nat.le_refl _⟩
    refine ⟨ps, rfl, ⟨_, SqL.of upd_same⟩, ?_⟩
    generalize upd (upd H4 pk (HO.lst [])) ps (HO.lst (ms.map V.int)) = H6 at L0 ⊢
    clear s5 s6 hps hpk he4 hD4 hc ne1 ne2
    have hml : ms.length ≤ 63 := by omega
    refine for_list (K := K) (a := ps) (xs := ms.map V.int) (fun i σ' H' => ∃ (pk l : Addr) (c : Crs) (es : List Int) (us : List Addr) (now : Int) (v1 v2 v3 v4 v5 : Option V), σ' = [some (.ref D), some (.int wide), some (.int most), some (.int z), some (.ref pe), some (.ref x), some (.ref pk), some (.int now), v1, v2, v3, v4, none, none, none, none, v5] ∧ us.length ≤ 4 * i ∧ LI K x pe pk D ps ns1 ms i l c es us now H')
      ⟨pk, l, _, _, _, 0, _, _, _, _, _, rfl, Nat.zero_le _, L0⟩ (fun i σ' H' _ ⟨_, _, _, _, _, _, _, _, _, _, _, _, _, q⟩ => SqL.of q.hs) ?_ ?_
    · rintro i y σ' H' hi ⟨pk, l, c, es, us, now, v1, v2, v3, v4, v5, rfl, hul0, L⟩
      obtain ⟨cell, rfl, _, hlt⟩ := int_at hi
      walk_at "rds"
      intro r r0 r1
      obtain ⟨u0, hv0, hm0⟩ := at2 (a := 10) (b := 1000000000 + 1) (k := wide) hw.1 hw.2
      walk_at "rds"
      intro p hp
      refine ⟨_, rfl, _, _, _, _, rfl, rfl, SqL.of upd_same, hv0, ?_⟩
      have hu0 : 0 < u0 := by omega
      have L1 := (L.same ((Same.refl H').new (o := HO.lst [V.int 10, V.int (1000000000 + 1)]) hp)).later (now' := now + r % u0) (by have := Int.emod_nonneg r (show u0 ≠ 0 by omega); omega)
      walk_at "nf"
      generalize upd H' p (HO.lst [V.int 10, V.int (1000000000 + 1)]) = H1 at L1 ⊢
      clear L hp hv0 hm0
      walk_at "rds"
      walk_at "nf"
      generalize now + r % u0 = now1 at L1 ⊢
      refine ⟨fun σ' H' => ∃ (pk : Addr) (us : List Addr) (v2 : Option V), σ' = [some (.ref D), some (.int wide), some (.int most), some (.int z), some (.ref pe), some (.ref x), some (.ref pk), some (.int now1), some (.int cell), v2, v3, v4, none, none, none, none, v5] ∧ us.length ≤ 4 * (i + 1) ∧ LI K x pe pk D ps ns1 ms i l c es us now1 H', ?_, ?_⟩
      · walk_at "rds"
        walk_at "ri" <;> intro c1
        · refine ⟨_, rfl, _, rfl, _, rfl, _, rfl, x, now1, cell, pe, rfl, c, es, L1.crs.crs, L1.good, L1.bd, SqL.of L1.he, L1.pos, c1, fun q us2 H2 s2 hq hul2 hq2 hh => ?_⟩
          have L2 := L1.same s2
          walk_at "rds"
          refine ⟨pk, q, _, _, rfl, rfl, L2.hk, hq2, ?_, fun p3 hp3 => ?_⟩
          · rw [List.length_map, List.length_map]
            exact Nat.le_trans (show us.length + us2.length ≤ 1000 by omega) (by decide)
          · exact ⟨p3, us ++ us2, _, rfl, by rw [List.length_append]; omega, L2.more hp3 hh⟩
        · exact ⟨pk, us, _, rfl, by omega, L1⟩
      clear L1
      rintro σ' H2 ⟨pk, us, v2, rfl, hul, L⟩
      walk_at "rds"
      intro r2 r20 r21
      obtain ⟨u1, hv1, hm1⟩ := at2 (a := 31) (b := 1000000000 + 1) (k := wide) hw.1 hw.2
      walk_at "rds"
      intro p hp
      refine ⟨_, rfl, _, _, _, _, rfl, rfl, SqL.of upd_same, hv1, ?_⟩
      have hu1 : 0 < u1 ∧ u1 ≤ 1000000001 := by omega
      have L1 := L.same ((Same.refl H2).new (o := HO.lst [V.int 31, V.int (1000000000 + 1)]) hp)
      have hend : 0 ≤ r2 / 7 % u1 ∧ r2 / 7 % u1 ≤ 1000000000 := ⟨Int.emod_nonneg _ (by omega), by have := Int.emod_lt_of_pos (r2 / 7) hu1.1; omega⟩
      walk_at "rds"
      walk_at "nf"
      generalize upd H2 p (HO.lst [V.int 31, V.int (1000000000 + 1)]) = H3 at L1 ⊢
      generalize r2 / 7 % u1 = fin at hend ⊢
      clear L hp hv1 hm1
      intro D2 hD2
      refine lc_range (lo := 0) (n := 3) (fun j H' => ∃ acc : List Int, H' D2 = some (.lst (acc.map V.int)) ∧ acc.length = j ∧ (∀ y ∈ acc, 0 ≤ y ∧ y ≤ 1000000000) ∧ Same H3 H') ⟨[], upd_same, rfl, fun y hy => (by cases hy), (Same.refl H3).new hD2⟩ ?_ ?_
      · rintro j H' hj ⟨acc, hacc, hal, hall, s⟩
        refine ⟨rfl, ?_⟩
        walk_at "rds"
        intro y y0 y1
        walk_at "rds"
        refine ⟨acc.map V.int, hacc, ?_, acc ++ [y / 3 % most], ?_, ?_, ?_, s.mut hD2⟩
        · rw [List.length_map]
          exact Nat.lt_of_le_of_lt (show acc.length ≤ 1000 by omega) (by decide)
        · rw [upd_same, List.map_append]
          rfl
        · rw [List.length_append]
          show acc.length + 1 = j + 1
          omega
        · intro v hv
          rcases List.mem_append.mp hv with hv | hv
          · exact hall v hv
          · have e := List.mem_singleton.mp hv
            rw [e]
            exact ⟨Int.emod_nonneg _ (by omega), by have := Int.emod_lt_of_pos (y / 3) hm2.1; omega⟩
      rintro H4 ⟨acc, hacc, hal, hall, s4⟩
      obtain ⟨t0, t1, t2, rfl⟩ : ∃ a b c, acc = [a, b, c] := match acc, hal with | [a, b, c], _ => ⟨a, b, c, rfl⟩
      have ht0 := hall t0 (by simp)
      have ht1 := hall t1 (by simp)
      have ht2 := hall t2 (by simp)
      have L2 := L1.same s4
      clear L1 s4 hall
      obtain ⟨dx, ts, o1, _, _⟩ := L2.crs.ob
      refine ⟨_, rfl, x, dx, _, rfl, o1, cf_no _ _ (by decide +kernel) (by decide +kernel), _, rfl, _, rfl, _, _, _, _, rfl, rfl, SqL.of hacc, rfl, _, rfl, _, _, _, _, rfl, rfl, SqL.of hacc, rfl, _, rfl, _, _, _, _, rfl, rfl, SqL.of hacc, rfl, _, rfl, ?_⟩
      refine ⟨x, c, now1, t0, t1, t2, fin, rfl, L2.crs.crs, L2.good, by have := L2.len; omega, fun H5 l2 hl2 hc2 kp => ?_⟩
      have L3 := L2.tell ht0.1 ⟨ht1.1, Int.le_trans ht1.2 (by decide)⟩ ⟨ht2.1, Int.le_trans ht2.2 (by decide)⟩ ⟨hend.1, Int.le_trans hend.2 (by decide)⟩ hl2 hc2 kp
      have he5 : H5 pe = some (.lst (es.map V.int)) := kp _ _ L2.he (ne_of L2.he o1 (by intro z; cases z))
      refine ⟨_, rfl, .inl ⟨rfl, _, SqL.of he5⟩, _, rfl, pe, es.map V.int, .int fin, rfl, rfl, he5, ?_, ?_⟩
      · rw [List.length_map]
        have := L2.el
        exact Nat.lt_of_le_of_lt (show es.length ≤ 1000 by omega) (by decide)
      · rw [show es.map V.int ++ [V.int fin] = (es ++ [fin]).map V.int by rw [List.map_append]; rfl]
        exact ⟨pk, l2, _, _, us, now1, _, _, _, _, _, rfl, hul, L3⟩
    · rintro σ' H' ⟨pk, l, c, es, us, now, v1, v2, v3, v4, v5, rfl, hul, L⟩
      obtain ⟨dx, ts, o1, _, _⟩ := L.crs.ob
      refine ⟨_, rfl, pk, rfl, ⟨_, SqL.of L.hk⟩, for_list (K := K) (a := pk) (xs := us.map V.ref) (fun i σ2 H2 => ∃ (w1 w2 w3 : Option V), σ2 = [some (.ref D), some (.int wide), some (.int most), some (.int z), some (.ref pe), some (.ref x), some (.ref pk), some (.int now), v1, v2, v3, v4, w1, w2, w3, none, v5] ∧ H2 = H') ⟨_, _, _, rfl, rfl⟩ (fun i σ2 H2 _ ⟨_, _, _, _, q⟩ => by rw [q]; exact SqL.of L.hk) ?_ ?_⟩
      · rintro i y σ2 H2 hi ⟨w1, w2, w3, rfl, rfl⟩
        obtain ⟨u, rfl, hu, _⟩ := ref_at hi
        obtain ⟨t, b, ht, hlt, b0, b1⟩ := L.held u (List.mem_of_getElem? hu)
        refine ⟨u, _, rfl, SqT.of ht, rfl, ?_⟩
        walk_at "rds"
        refine ⟨x, dx, _, rfl, o1, cf_no _ _ (by decide +kernel) (by decide +kernel), _, rfl, _, rfl, x, c, t, b, rfl, L.crs.crs, L.good, b0, by omega, ?_⟩
        refine ⟨_, rfl, rfl, _, rfl, iteNVF rfl ?_⟩
        exact ⟨_, _, _, rfl, rfl⟩
      · rintro σ2 H2 ⟨w1, w2, w3, rfl, rfl⟩
        refine ⟨_, rfl, x, dx, _, rfl, o1, cf_no _ _ (by decide +kernel) (by decide +kernel), x, c, rfl, L.crs.crs, fun H3 s3 => ?_⟩
        have L3 := L.same s3
        walk_at "rds"
        refine ⟨x, dx, _, rfl, s3 _ _ o1, cf_no _ _ (by decide +kernel) (by decide +kernel), x, c, rfl, L3.crs.crs, fun H4 s4 => ?_⟩
        have L4 := L3.same s4
        have o4 := s4 _ _ (s3 _ _ o1)
        have hlast := ints_last L4.last
        refine ⟨_, rfl, pe, _, _, _, rfl, rfl, SqL.of L4.he, hlast, rfl, _, rfl, iteNVF rfl ?_⟩
        have e1 := last_at L4.good (d := 0) (by decide)
        have e2 := last_at L4.good (d := 1000000000) (by decide)
        rw [Int.add_zero] at e1
        refine ⟨_, rfl, x, dx, _, rfl, o4, cf_no _ _ (by decide +kernel) (by decide +kernel), _, rfl, x, c, _, 1, rfl, L4.crs.crs, L4.good, by decide, by decide, ?_⟩
        rw [e1]
        refine ⟨_, rfl, pe, _, _, _, rfl, rfl, SqL.of L4.he, hlast, rfl, _, rfl, iteVT rfl ?_⟩
        refine ⟨_, rfl, x, dx, _, rfl, o4, cf_no _ _ (by decide +kernel) (by decide +kernel), _, rfl, _, _, rfl, rfl, x, c, _, 1, rfl, L4.crs.crs, L4.good, by decide, by decide, ?_⟩
        rw [e2]
        refine ⟨_, rfl, pe, _, _, _, rfl, rfl, SqL.of L4.he, hlast, rfl, ?_⟩
        exact qT (Q := Q) rfl (k _)
theorem law_facts {fa : Addr} (T : Txt K mg) (hfa : mg "law" = some (.ref fa)) :
    ∃ fd : FuncData, (∀ (s : Shared) (v : Value), BindsTo s fd ⟨[v], []⟩ [("_law_script", v)]) ∧ ∀ base : Heap, K.In base → base.Ns mainGlobals mg → FnOk P w K mg base CX0 6 fa fd ["_law_script"] (spLaw K) := by
  have e := hfa.symm.trans (glo_law T)
  cases e
  obtain ⟨fd, _, F⟩ := ok_law (P := P) (w := w) (base := default) T
  refine ⟨fd, fun s v => FunD.bindsA (ps := ["_law_script"]) F (fun _ _ _ _ _ _ us hl => match us, hl with | [_], _ => rfl) s [v] rfl, fun base _ _ => ?_⟩
  obtain ⟨fd', G, F'⟩ := ok_law (P := P) (w := w) (base := base) T
  have q : fd' = fd := F'.fd_eq F
  rw [← q]
  exact G


end

abbrev R : PySem.W.OpenRow := PySem.W.OpenLaw.row PySem.Challenge.rw_lampcues_k07_whole_past_stays
abbrev hk : PySem.W.Hook := He.hookD 6 fa fn
def ob (s : PySem.W.SharedT) : He.AlD := He.obsDG 6 fa fn (HandSHeadRun.getT s)
theorem ob_eq (s : PySem.W.SharedT) : ob s = hk.obs s.abs := He.obsDG_eq (HandSHeadRun.getT_eq s)
def loose0 : List PySem.Str := ["stand", "Course", "_law_cell_at", "_law_whole", "_law_draw", "_law_far", "_law_held"]
def loose : List PySem.Str := loose0
theorem run (w : World) : HandSHeadRun.RunEq R (PySem.W.view R.prog [9]) hk ob 4000 loose w := by
  intro os
  kernel_rfl
end G94
open PySem PySem.W PySem.Calls PyProof.Rows
theorem PySem.Challenge.cw_lampcues_k07_whole_past_stays_holds : PySem.Challenge.rw_lampcues_k07_whole_past_stays.Holds := by
  w_on; o_law
  refine HandSHeadRun.head_any (r := OpenLaw.row PySem.Challenge.rw_lampcues_k07_whole_past_stays) (q := view (OpenLaw.row PySem.Challenge.rw_lampcues_k07_whole_past_stays).prog [9]) (H := G94.hk) (ob := G94.ob) (M := 4000) (loose := G94.loose) (d := HandSHeadRun.topDef (OpenLaw.row PySem.Challenge.rw_lampcues_k07_whole_past_stays).prog 9) (kwd := []) G94.ob_eq
    (by kernel_rfl) (fun s => by kernel_rfl) G94.run (by kernel_rfl) (by kernel_rfl) (by kernel_rfl) (by rfl) (by first | assumption | decide +kernel) (by decide +kernel) ⟨rfl, rfl, rfl, rfl, rfl, by decide +kernel⟩ ?hw ?hc
  case hw => w_witness2
  case hc =>
    refine L2.walk_ofEB (l := PySem.Challenge.rw_lampcues_k07_whole_past_stays) (n := 63) (k := 6) (x := "_law_script") (CX := L2.CX0) rfl (by decide) (by kernel_rfl) ⟨rfl, by decide, by decide⟩ ?F (fun _ _ _ _ z => z)
    intro w mg fa h Y G hmg0
    obtain ⟨K, KX, c⟩ := Y
    have hmg : mg ("law" : PySem.Str) = some (.ref fa) := by
      have e : (HandSHeadRun.topDef (OpenLaw.row PySem.Challenge.rw_lampcues_k07_whole_past_stays).prog 9).name = ("law" : PySem.Str) := by kernel_rfl
      rw [← e]
      exact hmg0
    obtain ⟨fd, hb, hF⟩ := G94.law_facts (P := (PySem.Challenge.rw_lampcues_k07_whole_past_stays).prog) (w := w) ⟨c, h, KX, G⟩ hmg
    exact ⟨K, fd, G94.spLaw K, KX, hb, fun H a ns hl hb hH hS => ⟨a, ns, rfl, hS, hl, hb, hH, fun _ => rfl⟩, hF⟩
