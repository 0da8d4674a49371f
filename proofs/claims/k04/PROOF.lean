import PyProof.Rows.All
import Wide.All
import OpenK.AllK
import Wide.FinOn
import KE.KStateDown
import HandS.ForMost
import HandS.Exc
import HandS.TryOnly
import HandS.ExcOwn
import HandS.WordsExc
import HandS.Defaults
import HandS.Wide
import HandS.IsInst
import HandS.EndBits
import HandS.TupLe
import HandS.Rev
import HandS.Codes
import HandS.MakeKw
import HandS.Head0
import HandS.Head1
import HandS.Head2
import HandS.HeadEnd
import HandS.HeadHook1
import HandS.HeadHook2
import PySem.Challenge.RW_lampcues_k04_one_fade
set_option Elab.async false
set_option linter.all false
set_option maxRecDepth 100000
set_option maxHeartbeats 4000000
namespace L2
open PySem PySem.Spec PyProof.Rows
/-! ### own rules, own words -/
/-- a law's end by facts, with the script's bits and the only tracked thing told -/
theorem walk_ofEB {l : PySem.W.OpenLaw} {n k : Nat} {q : Program} {loose : List Str} {XP : (Str → Option Value) → Heap → Prop} {YP : World → Heap → Prop} {d : DefRec} {CX : CXT} {x : Str}
    (hn : l.most = some n) (hn2 : n ≤ sizeLine) (hdf : d.params.defaults = []) (hr : Room k callerA)
    (F : ∀ (w : World) (mg : Str → Option Value) (fa : Addr) (h : Heap), YP w h → h.Ns mainGlobals mg → mg d.name = some (.ref fa) →
      ∃ (K : PySem.W.Frag) (fd : FuncData) (sp : Sp), K.In h ∧ (∀ (s : Shared) (u : Value), BindsTo s fd ⟨[u], []⟩ [(x, u)]) ∧
        (∀ (H : Hp) (a : Addr) (ns : List Int), ns.length ≤ n → (∀ z ∈ ns, Builtin.Int.intBits z ≤ 1048576) → Only H → SqL K H a (ns.map V.int) → sp [.ref a] H (fun v _ => v = .bl true) fun _ _ _ => False) ∧
        ∀ base : Heap, K.In base → base.Ns mainGlobals mg → FnOk l.prog w K mg base CX k fa fd [x] sp)
    (hCX : ∀ (H : Hp) (s : Shared) (e : Value) (s' : Shared), CX [] H s (fun _ _ _ => False) e s' → False) :
    PySem.W.WalkO q loose XP YP l.row.toRowW d [] (fun f vs => PySem.call f vs) := by
  refine Att.attach_callB hn hdf fun w s₀ s₁ mg mb fa o pm cd doc a vs ns G Y ho hd hcd hmg hobj hints hlen hbits hg => ?_
  obtain ⟨K, fd, sp, KX, hb, hsp, hF⟩ := F w mg fa _ Y G.T.g hmg
  exact law_call KX G.T.g G.T.b G.T.builtins G.T.nolimit hg hobj hints (Nat.le_trans hlen hn2) hr hF hb (fun H hO hS => hsp H a ns hlen hbits hO hS) fun H e s' => hCX H s₁ e s'
section
variable {X : Cx}
/-- a written power -/
theorem pe_powC {i j v : Int} {a b : Nat} {p1 p2 pos : Pos} (e : i ^ j.toNat = v) (h : 0 ≤ j ∧ j ≤ 1000000 ∧ i.natAbs < 2 ^ 64) : PE X (.BinOp (.Constant (.int i) a p1) .Pow (.Constant (.int j) b p2) pos) (tC (.int v)) := by
  subst e
  refine ⟨fun pins s σ H Q I q => ?_⟩
  exact (pe_op (X := X) op_pow pe_int pe_int).run pins s σ H Q I ⟨i, j, rfl, rfl, h, q⟩
/-- a written negative number -/
theorem pe_negC {i : Int} {a : Nat} {p1 pos : Pos} : PE X (.UnaryOp .USub (.Constant (.int i) a p1) pos) (tC (.int (-i))) := by
  refine ⟨fun pins s σ H Q I q => ?_⟩
  exact (pe_un (X := X) un_neg pe_int).run pins s σ H Q I ⟨i, rfl, q⟩
end
theorem iteD {c A B : Prop} [Decidable c] (h1 : c → A) (h2 : ¬ c → B) : if decide c = true then A else B := by
  by_cases h : c
  · rw [if_pos (decide_eq_true h)]
    exact h1 h
  · rw [if_neg (by rw [decide_eq_false h]; exact Bool.false_ne_true)]
    exact h2 h
theorem iteND {c A B : Prop} [Decidable c] (h1 : ¬ c → A) (h2 : c → B) : if (!decide c) = true then A else B := by
  by_cases h : c
  · rw [decide_eq_true h]
    exact iteF (h2 h)
  · rw [decide_eq_false h]
    exact iteT (h1 h)
theorem iteV {a b : Int} {A B : Prop} (h1 : a = b → A) (h2 : a ≠ b → B) : if decide (V.int a = V.int b) = true then A else B :=
  iteD (fun e => h1 (V.int.inj e)) fun e => h2 fun q => e (congrArg V.int q)
theorem iteNV {a b : Int} {A B : Prop} (h1 : a ≠ b → A) (h2 : a = b → B) : if (!decide (V.int a = V.int b)) = true then A else B :=
  iteND (fun e => h1 fun q => e (congrArg V.int q)) fun e => h2 (V.int.inj e)
theorem iteB {b : Bool} {A B : Prop} (h1 : b = true → A) (h2 : b = false → B) : if b = true then A else B := by
  cases b with
  | true => exact iteT (h1 rfl)
  | false => exact iteF (h2 rfl)
theorem iteDT {c A B : Prop} [Decidable c] (h : c) (h1 : A) : if decide c = true then A else B := iteD (fun _ => h1) fun q => absurd h q
theorem iteDF {c A B : Prop} [Decidable c] (h : ¬ c) (h1 : B) : if decide c = true then A else B := iteD (fun q => absurd q h) fun _ => h1
theorem iteVT {a b : Int} {A B : Prop} (h : a = b) (h1 : A) : if decide (V.int a = V.int b) = true then A else B := iteV (fun _ => h1) fun q => absurd h q
theorem iteVF {a b : Int} {A B : Prop} (h : a ≠ b) (h1 : B) : if decide (V.int a = V.int b) = true then A else B := iteV (fun q => absurd q h) fun _ => h1
theorem iteNVF {a b : Int} {A B : Prop} (h : a = b) (h1 : B) : if (!decide (V.int a = V.int b)) = true then A else B := iteNV (fun q => absurd h q) fun _ => h1
theorem yes_lc {σ : St} {H : Hp} {A B : Hp → Prop} (h : A H) : tYes σ H (fun b H3 => if b = true then A H3 else B H3) := by
  show if true = true then A H else B H
  rw [if_pos rfl]
  exact h
theorem qT {Q : VK} {H : Hp} {c : Prop} [Decidable c] (h : c) (k : Q (.bl true) H) : Q (.bl (decide c)) H := by
  rw [decide_eq_true h]
  exact k
theorem qF {Q : VK} {H : Hp} {c : Prop} [Decidable c] (h : ¬ c) (k : Q (.bl false) H) : Q (.bl (decide c)) H := by
  rw [decide_eq_false h]
  exact k
theorem cut_ints (ns : List Int) (lo hi : Option Int) : ∃ ms : List Int, cutV (ns.map V.int) lo hi = ms.map V.int ∧ ms.length ≤ ns.length ∧ ∀ z ∈ ms, z ∈ ns := by
  refine ⟨(ns.drop (HT.sIx (ns.map V.int).length 0 lo)).take (HT.sIx (ns.map V.int).length (ns.map V.int).length hi - HT.sIx (ns.map V.int).length 0 lo), ?_, ?_, ?_⟩
  · unfold cutV
    rw [List.map_take, List.map_drop]
  · rw [List.length_take, List.length_drop]
    omega
  · intro z hz
    exact List.mem_of_mem_drop (List.mem_of_mem_take hz)
theorem int_at {ns : List Int} {i : Nat} {y : V} (h : (ns.map V.int)[i]? = some y) : ∃ z, y = V.int z ∧ ns[i]? = some z ∧ i < ns.length := by
  rw [List.getElem?_map] at h
  cases e : ns[i]? with
  | none =>
    rw [e] at h
    cases h
  | some z =>
    rw [e] at h
    exact ⟨z, (Option.some.inj h).symm, rfl, (List.getElem?_eq_some_iff.mp e).1⟩
theorem atI_lt {xs : List V} {k : Int} (h0 : 0 ≤ k) (h1 : k < xs.length) : ∃ v, atI xs k = some v ∧ xs[k.toNat]? = some v := by
  have hl : k.toNat < xs.length := by omega
  refine ⟨xs[k.toNat], ?_, List.getElem?_eq_getElem hl⟩
  obtain ⟨n, rfl⟩ : ∃ n : Nat, k = n := ⟨k.toNat, by omega⟩
  exact atI_nat (List.getElem?_eq_getElem hl)
theorem at2 {a b k : Int} (h0 : 0 ≤ k) (h1 : k < 2) : ∃ v, atI [V.int a, V.int b] k = some (V.int v) ∧ ((k = 0 ∧ v = a) ∨ (k = 1 ∧ v = b)) := by
  rcases (by omega : k = 0 ∨ k = 1) with rfl | rfl
  · exact ⟨a, rfl, .inl ⟨rfl, rfl⟩⟩
  · exact ⟨b, rfl, .inr ⟨rfl, rfl⟩⟩
theorem at3 {a b c k : Int} (h0 : 0 ≤ k) (h1 : k < 3) : ∃ v, atI [V.int a, V.int b, V.int c] k = some (V.int v) ∧ ((k = 0 ∧ v = a) ∨ (k = 1 ∧ v = b) ∨ (k = 2 ∧ v = c)) := by
  rcases (by omega : k = 0 ∨ k = 1 ∨ k = 2) with rfl | rfl | rfl
  · exact ⟨a, rfl, .inl ⟨rfl, rfl⟩⟩
  · exact ⟨b, rfl, .inr (.inl ⟨rfl, rfl⟩)⟩
  · exact ⟨c, rfl, .inr (.inr ⟨rfl, rfl⟩)⟩
/-- a call that writes all parameters, the last ones by name -/
theorem kb_all {K : PySem.W.Frag} {x qual : Str} {params : Arguments} {body : List Stmt} {scope : Scope} {dvs : List V} {kws : List (Str × V)} {f : Addr} {fd : FuncData} {ps : List Str} (F : FunD K x qual params body scope dvs kws f fd) (n : Nat) (ks : List Str) (hd : dvs ≠ [])
    (h : ∀ (T : Addr) (kV doc pm : Value) (an : Option Addr) (cdv ct : Value) (us its ws : List Value), us.length = n → its.length = dvs.length → ws.length = ks.length →
      ∃ k, bindArgs (PySem.W.fnOf x qual params body scope (.ref T) kV doc pm an cdv ct) ⟨us, ks.zip ws⟩ = seqItems? (.ref T) >>= k ∧ k (some its.toArray) = pure (ps.zip (us ++ ws))) : KBn K fd ps n ks (fun us ws => us ++ ws) (fun vs zs => vs ++ zs) := by
  obtain ⟨oc, od, dV, kV, doc, pm, an, cdv, ct, osl, rfl, lk, hcd, hD, _⟩ := F.ex
  rcases hD with ⟨e, _⟩ | ⟨_, T, o, its, m, rfl, lT, oT, rT⟩
  · exact absurd e hd
  · refine ⟨fun s us ws X h1 h2 => ?_, fun r1 r2 => r1.append r2⟩
    obtain ⟨k, e1, e2⟩ := h T kV doc pm an cdv ct us its ws h1 rT.length.symm h2
    refine BindsTo.of_looks fun M => ?_
    rw [e1]
    exact looks_items X lT oT (.of_pure e2)
theorem FunD.fd_eq {K : PySem.W.Frag} {x qual : Str} {params : Arguments} {body : List Stmt} {scope : Scope} {dvs : List V} {kws : List (Str × V)} {f : Addr} {fd fd' : FuncData} (F : FunD K x qual params body scope dvs kws f fd) (F' : FunD K x qual params body scope dvs kws f fd') : fd = fd' := by
  obtain ⟨_, _, _, _, _, _, _, _, _, _, _, l, _⟩ := F.ex
  obtain ⟨_, _, _, _, _, _, _, _, _, _, _, l', _⟩ := F'.ex
  rw [l] at l'
  simp only [Option.some.injEq, Obj.mk.injEq, Data.func.injEq] at l'
  exact l'.2.2.1
theorem small_size {n : Nat} (h : n ≤ 100000) : n ≤ sizeLine := Nat.le_trans h (by decide)
theorem Same.new {H H' : Hp} {p : Addr} {o : HO} (e : Same H H') (h : H' p = none) : Same H (upd H' p o) := fun a u q => by
  rw [upd_ne (ne_of_none (e a u q) h)]
  exact e a u q
theorem Same.mut {H H' : Hp} {p : Addr} {o : HO} (e : Same H H') (h : H p = none) : Same H (upd H' p o) := fun a u q => by
  rw [upd_ne (ne_of_none q h)]
  exact e a u q
/-- o.m(e, .., k = v, ..) -/
def tMethN (C : Addr) (m : Str) (n j : Nat) (sp : Sp) (gV : List V → List V → List V) (E : XK) (ta : TE) (t tk : TA) : TE := fun σ H Q => ta σ H fun x H1 => ∃ a dx fs, x = .ref a ∧ H1 a = some (.ins C dx fs) ∧ fs.lookup m = none ∧
  t σ H1 fun vs H2 => tk σ H2 fun zs H3 => vs.length = n ∧ zs.length = j ∧ sp (gV (x :: vs) zs) H3 Q E
theorem pe_methN {X : Cx} {CX : CXT} {k n : Nat} {f C : Addr} {fd : FuncData} {ps ks : List Str} {sp : Sp} {E : XK} {m : Str} {o e : Expr} {es : List Expr} {kws : List Keyword} {apos pos : Pos} {ta : TE} {t tk : TA} {g : List Value → List Value → List Value} {gV : List V → List V → List V} {pl : Sem Bool}
    (he : PE X o ta) (c : Cls X.K C) (hm : Meth X.K C m f) (F : FnOk X.prog X.w X.K X.mg X.base CX k f fd ps sp) (hr : Room k X.A) (hb : KBn X.K fd ps (n + 1) ks g gV) (hx : Passes CX X E) (ha : PA X (e :: es) t) (hkw : PK X kws tk)
    (hall : (backToKw pos (keywordEach kws X.env)).all (·.1.isSome) = true := by rfl)
    (hks : (backToKw pos (keywordEach kws X.env)).filterMap (·.1) = ks := by rfl)
    (hst : starEach (e :: es) X.env = (false, eval e X.env) :: starEach es X.env := by rfl)
    (hpl : ((backTo pos (starEach (e :: es) X.env)).any (·.1) || (backToKw pos (keywordEach kws X.env)).any (·.1.isNone)) = false := by rfl)
    (ht : eval (.Call (.Attribute o m apos) (e :: es) kws pos) X.env = (do
      let ov ← eval o X.env
      standAt apos.atName
      let (f, first) ← holding [ov] (getMethod ov m pl)
      callWith pos f first (backTo pos (starEach (e :: es) X.env)) (backToKw pos (keywordEach kws X.env))) := by rfl) :
    PE X (.Call (.Attribute o m apos) (e :: es) kws pos) (tMethN C m n ks.length sp gV E ta t tk) := by
  constructor
  intro pins s σ H Q I hh
  apply PySem.W.methodCall_KW (pl := pl) (he := ht)
  apply thn (he.run pins s σ H _ I hh)
  rintro u s1 ⟨x, H1, I1, rx, a, dx, fs, rfl, ea, l, q⟩
  obtain rfl : u = Value.ref a := rx
  apply getmeth_ok I1 ea c hm l
  apply PySem.W.callWith_KW (first := [.ref a]) (h₀ := X.base) I.ok.mod.kin hm.kp hall (hplain := hpl) (he := hst)
  apply thn (ha.run pos pins s1 σ H1 _ I1 q)
  rintro us s2 ⟨vs, H2, I2, r, q2⟩
  apply thn (hkw.run pos pins s2 σ H2 _ I2 q2)
  rintro ws s3 ⟨zs, H3, I3, rz, l1, l2, q3⟩
  refine ⟨I3.kIn, ?_⟩
  rw [hks]
  exact run_fnN (us := .ref a :: us) (vs := .ref a :: vs) F hr hb hx I3 (.cons rfl r) rz (congrArg Nat.succ l1) l2 q3
end L2
/-! ### the words of a reading: sd a side condition, rd one step, rds as many as go by themselves, ri a test -/
local macro_rules | `(tactic| walk_at "sd") => `(tactic| first
  | omega
  | (show (0 : Int) < _; omega)
  | (show (0 : Int) ≤ _; omega)
  | exact .inl ⟨by omega, by omega⟩
  | exact .inr ⟨by omega, by omega⟩
  | exact ⟨by decide, by decide⟩
  | exact ⟨by omega, by omega⟩
  | exact L2.small_size (Nat.le_of_ble_eq_true rfl)
  | assumption
  | exact ⟨_, by assumption⟩)
local macro_rules | `(tactic| walk_at "rd") => `(tactic| first
  | refine ⟨_, rfl, ?_⟩
  | refine ⟨_, _, rfl, rfl, ?_⟩
  | refine ⟨_, _, rfl, ?_⟩
  | refine ⟨_, _, _, rfl, ?_⟩
  | refine ⟨_, _, _, _, rfl, ?_⟩
  | refine ⟨_, _, _, _, _, rfl, ?_⟩
  | refine ⟨_, _, _, _, _, _, rfl, ?_⟩
  | refine ⟨rfl, ?_⟩
  | refine L2.iteF ?_
  | refine L2.iteT ?_
  | refine And.intro (by walk_at "sd") ?_
  | refine ⟨_, _, _, _, true, rfl, .ty _, .base (.int _), L2.kit_ty (by decide +kernel), ?_⟩
  | refine ⟨_, _, _, _, false, rfl, .ty _, .base (.int _), L2.kit_ty (by decide +kernel), ?_⟩)
local macro_rules | `(tactic| walk_at "rds") => `(tactic| repeat walk_at "rd")
local macro_rules | `(tactic| walk_at "rz") => `(tactic| repeat first
  | walk_at "rd"
  | refine fun (_ : Int) => ?_
  | refine fun (_ : (_ : Int) ≤ _) => ?_
  | refine fun (_ : (_ : Int) < _) => ?_)
local macro_rules | `(tactic| walk_at "ri") => `(tactic| first
  | refine L2.iteV ?_ ?_
  | refine L2.iteNV ?_ ?_
  | refine L2.iteD ?_ ?_
  | refine L2.iteND ?_ ?_
  | refine L2.iteB ?_ ?_)
local macro_rules | `(tactic| walk_at "nf") => `(tactic| try dsimp only [L2.start, List.set_cons_zero, List.set_cons_succ])
namespace G94
open PySem PySem.Spec PyProof.Rows L2
def top (i : Nat) : Stmt := PySem.Challenge.pw_lampcues_k04_one_fade.main.body.getD i (.Pass ⟨0, 0, 0, 0⟩)
abbrev s_stand : Stmt := top 1
theorem sc_stand : FnScope ["start", "end", "length", "top", "bottom", "steps"] ["start", "end", "length", "top", "bottom"] (defScope s_stand) := ⟨rfl, rfl, rfl, by decide +kernel, rfl, by decide +kernel, by decide +kernel⟩
abbrev s_Course_init : Stmt := inClass (top 2) 0
theorem sc_Course_init : FnScope ["self", "worth"] ["self", "worth"] (defScope s_Course_init) := ⟨rfl, rfl, rfl, by decide +kernel, rfl, by decide +kernel, by decide +kernel⟩
abbrev s_Course_at : Stmt := inClass (top 2) 2
theorem sc_Course_at : FnScope ["self", "top", "bottom", "out", "start", "end", "length"] ["self", "top", "bottom"] (defScope s_Course_at) := ⟨rfl, rfl, rfl, by decide +kernel, rfl, by decide +kernel, by decide +kernel⟩
abbrev s_Course_tell : Stmt := inClass (top 2) 1
theorem sc_Course_tell : FnScope ["self", "now", "wait", "rise", "fall", "end", "out", "start", "length", "fade"] ["self", "now", "wait", "rise", "fall", "end"] (defScope s_Course_tell) := ⟨rfl, rfl, rfl, by decide +kernel, rfl, by decide +kernel, by decide +kernel⟩
abbrev s_Course_aim : Stmt := inClass (top 2) 3
theorem sc_Course_aim : FnScope ["self"] ["self"] (defScope s_Course_aim) := ⟨rfl, rfl, rfl, by decide +kernel, rfl, by decide +kernel, by decide +kernel⟩
abbrev s_Course_still : Stmt := inClass (top 2) 4
theorem sc_Course_still : FnScope ["self"] ["self"] (defScope s_Course_still) := ⟨rfl, rfl, rfl, by decide +kernel, rfl, by decide +kernel, by decide +kernel⟩
abbrev s_l_cell_at : Stmt := top 4
theorem sc_l_cell_at : FnScope ["_law_script", "_law_k"] ["_law_script", "_law_k"] (defScope s_l_cell_at) := ⟨rfl, rfl, rfl, by decide +kernel, rfl, by decide +kernel, by decide +kernel⟩
abbrev s_l_whole : Stmt := top 5
theorem sc_l_whole : FnScope ["_law_found"] ["_law_found"] (defScope s_l_whole) := ⟨rfl, rfl, rfl, by decide +kernel, rfl, by decide +kernel, by decide +kernel⟩
abbrev s_l_alike : Stmt := top 8
theorem sc_l_alike : FnScope ["_law_found", "_law_due"] ["_law_found", "_law_due"] (defScope s_l_alike) := ⟨rfl, rfl, rfl, by decide +kernel, rfl, by decide +kernel, by decide +kernel⟩
abbrev s_l_gone : Stmt := top 6
theorem sc_l_gone : FnScope ["_law_start", "_law_end", "_law_length", "_law_top", "_law_lower"] ["_law_start", "_law_end", "_law_length", "_law_top", "_law_lower"] (defScope s_l_gone) := ⟨rfl, rfl, rfl, by decide +kernel, rfl, by decide +kernel, by decide +kernel⟩
abbrev s_l_spot : Stmt := top 7
theorem sc_l_spot : FnScope ["_law_cell", "_law_out", "_law_length", "_law_lower", "_law_number"] ["_law_cell", "_law_out", "_law_length"] (defScope s_l_spot) := ⟨rfl, rfl, rfl, by decide +kernel, rfl, by decide +kernel, by decide +kernel⟩
abbrev s_l_bare : Stmt := top 9
theorem sc_l_bare : FnScope ["_law_course", "_law_first", "_law_spots", "_law_top", "_law_lower"] ["_law_course", "_law_first", "_law_spots"] (defScope s_l_bare) := ⟨rfl, rfl, rfl, by decide +kernel, rfl, by decide +kernel, by decide +kernel⟩
abbrev s_law : Stmt := top 10
theorem sc_law : FnScope ["_law_script", "_law_first", "_law_course", "_law_most", "_law_now", "_law_times", "_law_end", "_law_length", "_law_out", "_law_spots", "_law_top", "_law_lower", "_law_due", "_law_k", "_law_cell"] ["_law_script"] (defScope s_law) := ⟨rfl, rfl, rfl, by decide +kernel, rfl, by decide +kernel, by decide +kernel⟩
def d_stand : He.DefD := ⟨("stand", none), "stand", "stand", defArgs s_stand, defBody s_stand, defScope s_stand, [.int 1], []⟩
def d_Course_init : He.DefD := ⟨("Course", some "__init__"), "__init__", "Course.__init__", defArgs s_Course_init, defBody s_Course_init, defScope s_Course_init, [.int 0], []⟩
def d_Course_at : He.DefD := ⟨("Course", some "at"), "at", "Course.at", defArgs s_Course_at, defBody s_Course_at, defScope s_Course_at, [.int 1], []⟩
def d_Course_tell : He.DefD := ⟨("Course", some "tell"), "tell", "Course.tell", defArgs s_Course_tell, defBody s_Course_tell, defScope s_Course_tell, [], []⟩
def d_Course_aim : He.DefD := ⟨("Course", some "aim"), "aim", "Course.aim", defArgs s_Course_aim, defBody s_Course_aim, defScope s_Course_aim, [], []⟩
def d_Course_still : He.DefD := ⟨("Course", some "still"), "still", "Course.still", defArgs s_Course_still, defBody s_Course_still, defScope s_Course_still, [], []⟩
def d_l_cell_at : He.DefD := ⟨("_law_cell_at", none), "_law_cell_at", "_law_cell_at", defArgs s_l_cell_at, defBody s_l_cell_at, defScope s_l_cell_at, [], []⟩
def d_l_whole : He.DefD := ⟨("_law_whole", none), "_law_whole", "_law_whole", defArgs s_l_whole, defBody s_l_whole, defScope s_l_whole, [], []⟩
def d_l_alike : He.DefD := ⟨("_law_alike", none), "_law_alike", "_law_alike", defArgs s_l_alike, defBody s_l_alike, defScope s_l_alike, [], []⟩
def d_l_gone : He.DefD := ⟨("_law_gone", none), "_law_gone", "_law_gone", defArgs s_l_gone, defBody s_l_gone, defScope s_l_gone, [], []⟩
def d_l_spot : He.DefD := ⟨("_law_spot", none), "_law_spot", "_law_spot", defArgs s_l_spot, defBody s_l_spot, defScope s_l_spot, [], []⟩
def d_l_bare : He.DefD := ⟨("_law_bare", none), "_law_bare", "_law_bare", defArgs s_l_bare, defBody s_l_bare, defScope s_l_bare, [], []⟩
def d_law : He.DefD := ⟨("law", none), "law", "law", defArgs s_law, defBody s_law, defScope s_law, [], []⟩
def fn : List He.DefD := [d_stand, d_Course_init, d_Course_at, d_Course_tell, d_Course_aim, d_Course_still, d_l_cell_at, d_l_whole, d_l_alike, d_l_gone, d_l_spot, d_l_bare, d_law]
def fa : List He.Fa := [.glo "stand", .glo "_law_cell_at", .glo "_law_whole", .glo "_law_alike", .glo "_law_gone", .glo "_law_spot", .glo "_law_bare", .glo "law", .glo "Course", .free "len", .free "abs", .free "max", .free "sum", .free "isinstance", .free "int", .free "bool", .free "min", .free "reversed", .free "range", .cls "Course", .mkr "Course", .noat "Course" "first", .noat "Course" "fades", .meth "Course" "tell", .meth "Course" "at", .meth "Course" "aim", .meth "Course" "still"]
/-- what the top leaves -/
structure Txt (K : PySem.W.Frag) (mg : Str → Option Value) : Prop where
  c : He.SaysD fa fn K
  hp : ∃ h : Heap, K.In h ∧ h.Ns mainGlobals mg
section
variable {K : PySem.W.Frag} {mg : Str → Option Value}
theorem glo_stand (T : Txt K mg) : mg "stand" = some (.ref (He.ga K "stand")) := by
  obtain ⟨h, X, G⟩ := T.hp
  exact He.glo_ok X G (T.c.fact 0 rfl)
theorem glo__law_cell_at (T : Txt K mg) : mg "_law_cell_at" = some (.ref (He.ga K "_law_cell_at")) := by
  obtain ⟨h, X, G⟩ := T.hp
  exact He.glo_ok X G (T.c.fact 1 rfl)
theorem glo__law_whole (T : Txt K mg) : mg "_law_whole" = some (.ref (He.ga K "_law_whole")) := by
  obtain ⟨h, X, G⟩ := T.hp
  exact He.glo_ok X G (T.c.fact 2 rfl)
theorem glo__law_alike (T : Txt K mg) : mg "_law_alike" = some (.ref (He.ga K "_law_alike")) := by
  obtain ⟨h, X, G⟩ := T.hp
  exact He.glo_ok X G (T.c.fact 3 rfl)
theorem glo__law_gone (T : Txt K mg) : mg "_law_gone" = some (.ref (He.ga K "_law_gone")) := by
  obtain ⟨h, X, G⟩ := T.hp
  exact He.glo_ok X G (T.c.fact 4 rfl)
theorem glo__law_spot (T : Txt K mg) : mg "_law_spot" = some (.ref (He.ga K "_law_spot")) := by
  obtain ⟨h, X, G⟩ := T.hp
  exact He.glo_ok X G (T.c.fact 5 rfl)
theorem glo__law_bare (T : Txt K mg) : mg "_law_bare" = some (.ref (He.ga K "_law_bare")) := by
  obtain ⟨h, X, G⟩ := T.hp
  exact He.glo_ok X G (T.c.fact 6 rfl)
theorem glo_law (T : Txt K mg) : mg "law" = some (.ref (He.ga K "law")) := by
  obtain ⟨h, X, G⟩ := T.hp
  exact He.glo_ok X G (T.c.fact 7 rfl)
theorem glo_Course (T : Txt K mg) : mg "Course" = some (.ref (He.ga K "Course")) := by
  obtain ⟨h, X, G⟩ := T.hp
  exact He.glo_ok X G (T.c.fact 8 rfl)
theorem free_len (T : Txt K mg) : mg "len" = none := by
  obtain ⟨h, X, G⟩ := T.hp
  exact He.free_ok X G (T.c.fact 9 rfl)
theorem free_abs (T : Txt K mg) : mg "abs" = none := by
  obtain ⟨h, X, G⟩ := T.hp
  exact He.free_ok X G (T.c.fact 10 rfl)
theorem free_max (T : Txt K mg) : mg "max" = none := by
  obtain ⟨h, X, G⟩ := T.hp
  exact He.free_ok X G (T.c.fact 11 rfl)
theorem free_sum (T : Txt K mg) : mg "sum" = none := by
  obtain ⟨h, X, G⟩ := T.hp
  exact He.free_ok X G (T.c.fact 12 rfl)
theorem free_isinstance (T : Txt K mg) : mg "isinstance" = none := by
  obtain ⟨h, X, G⟩ := T.hp
  exact He.free_ok X G (T.c.fact 13 rfl)
theorem free_int (T : Txt K mg) : mg "int" = none := by
  obtain ⟨h, X, G⟩ := T.hp
  exact He.free_ok X G (T.c.fact 14 rfl)
theorem free_bool (T : Txt K mg) : mg "bool" = none := by
  obtain ⟨h, X, G⟩ := T.hp
  exact He.free_ok X G (T.c.fact 15 rfl)
theorem free_min (T : Txt K mg) : mg "min" = none := by
  obtain ⟨h, X, G⟩ := T.hp
  exact He.free_ok X G (T.c.fact 16 rfl)
theorem free_reversed (T : Txt K mg) : mg "reversed" = none := by
  obtain ⟨h, X, G⟩ := T.hp
  exact He.free_ok X G (T.c.fact 17 rfl)
theorem free_range (T : Txt K mg) : mg "range" = none := by
  obtain ⟨h, X, G⟩ := T.hp
  exact He.free_ok X G (T.c.fact 18 rfl)
theorem fact_cls_Course (T : Txt K mg) : (He.Fa.ok K (.cls "Course")) = true := T.c.fact 19 rfl
theorem fact_mk_Course (T : Txt K mg) : (He.Fa.ok K (.mkr "Course")) = true := T.c.fact 20 rfl
theorem fact_na_Course_first (T : Txt K mg) : (He.Fa.ok K (.noat "Course" "first")) = true := T.c.fact 21 rfl
theorem fact_na_Course_fades (T : Txt K mg) : (He.Fa.ok K (.noat "Course" "fades")) = true := T.c.fact 22 rfl
theorem fact_m_Course_tell (T : Txt K mg) : (He.Fa.ok K (.meth "Course" "tell")) = true := T.c.fact 23 rfl
theorem fact_m_Course_at (T : Txt K mg) : (He.Fa.ok K (.meth "Course" "at")) = true := T.c.fact 24 rfl
theorem fact_m_Course_aim (T : Txt K mg) : (He.Fa.ok K (.meth "Course" "aim")) = true := T.c.fact 25 rfl
theorem fact_m_Course_still (T : Txt K mg) : (He.Fa.ok K (.meth "Course" "still")) = true := T.c.fact 26 rfl
end
section
variable {K : PySem.W.Frag} {mg : Str → Option Value}
theorem cls_Course (T : Txt K mg) : Cls K (He.ga K "Course") := He.cls_ok (fact_cls_Course T)
theorem mk_Course (T : Txt K mg) : Mk K (He.ga K "Course") (He.ma K (He.ga K "Course") "__init__") := He.mkr_ok (fact_mk_Course T)
theorem na_Course_first (T : Txt K mg) : NoAttr K (He.ga K "Course") "first" := He.noat_ok (fact_na_Course_first T)
theorem na_Course_fades (T : Txt K mg) : NoAttr K (He.ga K "Course") "fades" := He.noat_ok (fact_na_Course_fades T)
theorem m_Course_tell (T : Txt K mg) : Meth K (He.ga K "Course") "tell" (He.ma K (He.ga K "Course") "tell") := He.meth_ok (fact_m_Course_tell T)
theorem m_Course_at (T : Txt K mg) : Meth K (He.ga K "Course") "at" (He.ma K (He.ga K "Course") "at") := He.meth_ok (fact_m_Course_at T)
theorem m_Course_aim (T : Txt K mg) : Meth K (He.ga K "Course") "aim" (He.ma K (He.ga K "Course") "aim") := He.meth_ok (fact_m_Course_aim T)
theorem m_Course_still (T : Txt K mg) : Meth K (He.ga K "Course") "still" (He.ma K (He.ga K "Course") "still") := He.meth_ok (fact_m_Course_still T)
end
section
variable {P : Program} {w : World} {K : PySem.W.Frag} {mg : Str → Option Value} {base : Heap}
/-! ### stand -/
def way (s e : Int) : Int := if e - s < 0 then -(e - s) else e - s
def stand (s e l t b : Int) : Int :=
  if t < 0 then s else if b * l ≤ t then e else if e < s then s - way s e * t / (b * l) else s + way s e * t / (b * l)
/-- how far the numbers may go -/
def Fits (s e l b : Int) : Prop := 0 ≤ s ∧ s ≤ 1000000000000000000 ∧ 0 ≤ e ∧ e ≤ 1000000000000000000 ∧ 0 ≤ l ∧ l ≤ 1000000000000000000 ∧ 1 ≤ b ∧ b ≤ 1000000000000000000
theorem way_bound {s e l b : Int} (h : Fits s e l b) : 0 ≤ way s e ∧ way s e ≤ 1000000000000000000 := by
  obtain ⟨s0, s1, e0, e1, l0, l1, b0, b1⟩ := h
  unfold way
  split <;> omega
theorem bl_bound {s e l b : Int} (h : Fits s e l b) : (b * l).natAbs < 2 ^ 121 := by
  obtain ⟨s0, s1, e0, e1, l0, l1, b0, b1⟩ := h
  rw [Int.natAbs_mul]
  have h1 : b.natAbs ≤ 10 ^ 18 := by omega
  have h2 : l.natAbs ≤ 10 ^ 18 := by omega
  exact Nat.lt_of_le_of_lt (Nat.mul_le_mul h1 h2) (by decide)
theorem bl_pos {s e l t b : Int} (h : Fits s e l b) (h0 : ¬ t < 0) (h1 : ¬ b * l ≤ t) : 0 < b * l := by omega
def spStand : Sp := fun vs H Q _ => ∃ s e l t b, vs = [.int s, .int e, .int l, .int t, .int b] ∧ Fits s e l b ∧ Q (.int (stand s e l t b)) H
theorem ok_stand (T : Txt K mg) : ∃ fd, FnOk P w K mg base CX0 1 (He.fAd K ("stand", none)) fd ["start", "end", "length", "top", "bottom"] spStand ∧ FunD K "stand" "stand" (defArgs s_stand) (defBody s_stand) (defScope s_stand) [.int 1] [] (He.fAd K ("stand", none)) fd := by
  obtain ⟨fd, F⟩ := T.c.def_ 0 (d := d_stand) rfl
  refine ⟨fd, F.ok sc_stand (fun vs H Q E h => ?_) (fun cdv A outer st H vs Q E hr h => ?_), F⟩
  · obtain ⟨_, _, _, _, _, rfl, _⟩ := h
    rfl
  · obtain ⟨s, e, l, t, b, rfl, hf, k⟩ := h
    refine ⟨_, PSs.nox (pss_cons (ps_if (pt_cmpR op_lt (pv 3) pe_int (nomark _)) (pss_one (ps_ret (pv 0))) pss_nil)
        (pss_cons (ps_if (pt_cmpR op_ge (pv 3) (pe_op op_mul (pv 4) (pv 2)) (nomark _)) (pss_one (ps_ret (pv 1))) pss_nil)
        (pss_cons (ps_set (i := 5) sc_stand.nd rfl (Or.inl rfl) (pe_op op_fdivW (pe_op op_mul (pe_callB call_abs (by rfl) (free_abs T) (by decide +kernel) (pa_cons (pe_op op_sub (pv 1) (pv 0)) pa_nil)) (pv 3)) (pe_op op_mul (pv 4) (pv 2))))
        (pss_cons (ps_if (pt_cmpR op_lt (pv 1) (pv 0) (nomark _)) (pss_one (ps_ret (pe_op op_sub (pv 0) (pv 5)))) pss_nil)
        (pss_one (ps_ret (pe_op op_add (pv 0) (pv 5)))))))), ?_⟩
    unfold stand at k
    have hf' := hf
    obtain ⟨s0, s1, e0, e1, l0, l1, b0, b1⟩ := hf'
    have wb := way_bound hf
    walk_at "rds"
    walk_at "ri" <;> intro c1
    · rw [if_pos c1] at k
      exact ⟨_, rfl, k⟩
    rw [if_neg c1] at k
    refine ⟨_, rfl, _, rfl, _, rfl, _, _, rfl, rfl, .inl ⟨by omega, by omega⟩, _, _, rfl, rfl, _, rfl, ?_⟩
    walk_at "ri" <;> intro c2
    · rw [if_pos c2] at k
      exact ⟨_, rfl, k⟩
    rw [if_neg c2] at k
    have hp := bl_pos hf c1 c2
    refine ⟨_, rfl, _, rfl, _, _, rfl, rfl, _, rfl, _, rfl, _, _, rfl, rfl, .inl ⟨?_, ?_⟩, ?_⟩
    · show -(2 ^ 64) < way s e
      omega
    · show way s e < 2 ^ 64
      omega
    refine ⟨_, rfl, _, rfl, _, _, rfl, rfl, .inl ⟨by omega, by omega⟩, _, _, rfl, rfl, wide_div hp (bl_bound hf) (by decide) (by decide), ?_⟩
    refine ⟨_, rfl, _, rfl, _, _, rfl, rfl, _, rfl, ?_⟩
    walk_at "ri" <;> intro c3
    · rw [if_pos c3] at k
      exact ⟨_, rfl, _, rfl, _, _, rfl, rfl, k⟩
    · rw [if_neg c3] at k
      exact ⟨_, rfl, _, rfl, _, _, rfl, rfl, k⟩
/-! ### courses: the data -/
structure Fade where
  out : Int
  start : Int
  fin : Int
  len : Int
def Fade.v (f : Fade) : List V := [.int f.out, .int f.start, .int f.fin, .int f.len]
structure Crs where
  first : Int
  fades : List Fade
def look (first t b : Int) : List Fade → Int
  | [] => first
  | f :: r => if f.out * b ≤ t then stand f.start f.fin f.len (t - f.out * b) b else look first t b r
theorem look_yes {first t b : Int} {f : Fade} {r : List Fade} (h : f.out * b ≤ t) : look first t b (f :: r) = stand f.start f.fin f.len (t - f.out * b) b := if_pos h
theorem look_no {first t b : Int} {f : Fade} {r : List Fade} (h : ¬ f.out * b ≤ t) : look first t b (f :: r) = look first t b r := if_neg h
def Crs.pos (c : Crs) (t b : Int) : Int := look c.first t b c.fades.reverse
def kept (o : Int) (fs : List Fade) : List Fade := fs.filter fun f => decide (f.out < o)
def Crs.tell (c : Crs) (now wait rise fall fin : Int) : Crs :=
  ⟨c.first, kept (now + wait) c.fades ++ [⟨now + wait, look c.first (now + wait) 1 (kept (now + wait) c.fades).reverse, fin, if look c.first (now + wait) 1 (kept (now + wait) c.fades).reverse < fin then rise else fall⟩]⟩
def Crs.aim (c : Crs) : Int := match c.fades.getLast? with
  | none => c.first
  | some f => f.fin
def Crs.still (c : Crs) : Int := match c.fades.getLast? with
  | none => 0
  | some f => f.out + f.len
def Inr (x : Int) : Prop := 0 ≤ x ∧ x ≤ 1000000000000000000
structure Fade.Good (f : Fade) : Prop where
  s : Inr f.start
  e : Inr f.fin
  l : Inr f.len
structure Crs.Good (c : Crs) : Prop where
  f : Inr c.first
  fs : ∀ f ∈ c.fades, f.Good
theorem stand_in {s e l t b : Int} (hs : Inr s) (he : Inr e) (hl : Inr l) (hb : 1 ≤ b) : Inr (stand s e l t b) := by
  obtain ⟨s0, s1⟩ := hs
  obtain ⟨e0, e1⟩ := he
  obtain ⟨l0, l1⟩ := hl
  unfold stand
  by_cases c1 : t < 0
  · rw [if_pos c1]
    exact ⟨s0, s1⟩
  rw [if_neg c1]
  by_cases c2 : b * l ≤ t
  · rw [if_pos c2]
    exact ⟨e0, e1⟩
  rw [if_neg c2]
  have hp : 0 < b * l := by omega
  have hw : 0 ≤ way s e := by
    unfold way
    split <;> omega
  have g0 : 0 ≤ way s e * t / (b * l) := Int.ediv_nonneg (Int.mul_nonneg hw (by omega)) (by omega)
  have g1 : way s e * t / (b * l) ≤ way s e := by
    have h2 : way s e * t ≤ way s e * (b * l) := Int.mul_le_mul_of_nonneg_left (by omega) hw
    have h3 : way s e * t / (b * l) * (b * l) ≤ way s e * t := Int.ediv_mul_le _ (by omega)
    exact Int.le_of_mul_le_mul_right (Int.le_trans h3 h2) hp
  generalize way s e * t / (b * l) = g at g0 g1 ⊢
  unfold way at g1
  unfold Inr
  by_cases c3 : e < s
  · rw [if_pos c3]
    split at g1 <;> omega
  · rw [if_neg c3]
    split at g1 <;> omega
theorem look_in {first t b : Int} (h0 : Inr first) (hb : 1 ≤ b) : ∀ {fs : List Fade}, (∀ f ∈ fs, f.Good) → Inr (look first t b fs)
  | [], _ => h0
  | f :: r, h => by
    unfold look
    have hf := h f List.mem_cons_self
    split
    · exact stand_in hf.s hf.e hf.l hb
    · exact look_in h0 hb fun g hg => h g (List.mem_cons_of_mem _ hg)
theorem kept_good {o : Int} {fs : List Fade} (h : ∀ f ∈ fs, f.Good) : ∀ f ∈ kept o fs, f.Good := fun f hf => h f (List.mem_filter.mp hf).1
theorem Crs.Good.tell {c : Crs} (h : c.Good) {now wait rise fall fin : Int} (hr : Inr rise) (hf : Inr fall) (he : Inr fin) : (c.tell now wait rise fall fin).Good := by
  refine ⟨h.f, fun f hm => ?_⟩
  rcases List.mem_append.mp hm with hm | hm
  · exact kept_good h.fs f hm
  · have e := List.mem_singleton.mp hm
    subst e
    refine ⟨?_, he, ?_⟩
    · exact look_in h.f (by decide) fun g hg => kept_good h.fs g (List.mem_reverse.mp hg)
    · show Inr (if _ then rise else fall)
      split
      · exact hr
      · exact hf
theorem Crs.tell_len (c : Crs) (now wait rise fall fin : Int) : (c.tell now wait rise fall fin).fades.length ≤ c.fades.length + 1 := by
  have h := List.length_filter_le (fun f : Fade => decide (f.out < now + wait)) c.fades
  show (kept (now + wait) c.fades ++ [_]).length ≤ _
  rw [List.length_append]
  unfold kept
  simp only [List.length_cons, List.length_nil]
  omega
/-! ### courses: the heap -/
def TupsAt (H : Hp) (ts : List Addr) (fs : List Fade) : Prop := ts.length = fs.length ∧ ∀ (i : Nat) t f, ts[i]? = some t → fs[i]? = some f → H t = some (.tup f.v)
theorem TupsAt.mono {H H' : Hp} {ts : List Addr} {fs : List Fade} (h : TupsAt H ts fs) (e : ∀ t xs, H t = some (.tup xs) → H' t = some (.tup xs)) : TupsAt H' ts fs := ⟨h.1, fun i t f a b => e _ _ (h.2 i t f a b)⟩
theorem TupsAt.snoc {H : Hp} {ts : List Addr} {fs : List Fade} (h : TupsAt H ts fs) {t : Addr} {f : Fade} (ht : H t = some (.tup f.v)) : TupsAt H (ts ++ [t]) (fs ++ [f]) := by
  refine ⟨by rw [List.length_append, List.length_append, h.1]; rfl, fun i u g a b => ?_⟩
  by_cases hi : i < ts.length
  · rw [List.getElem?_append_left hi] at a
    rw [List.getElem?_append_left (by rw [← h.1]; exact hi)] at b
    exact h.2 i u g a b
  · have hi' : ts.length ≤ i := by omega
    rw [List.getElem?_append_right hi'] at a
    rw [List.getElem?_append_right (by rw [← h.1]; exact hi'), ← h.1] at b
    cases hk : i - ts.length with
    | zero =>
      rw [hk] at a b
      have e1 : t = u := Option.some.inj a
      have e2 : f = g := Option.some.inj b
      rw [← e1, ← e2]
      exact ht
    | succ k =>
      rw [hk] at a
      cases a
abbrev cC (K : PySem.W.Frag) : Addr := He.ga K "Course"
def cflds (z : Int) (l : Addr) : List (Str × V) := [(("first" : Str), V.int z), (("fades" : Str), V.ref l)]
theorem nff : ¬ (("first" : Str) = "fades") := by decide +kernel
theorem nff2 : ¬ (("fades" : Str) = "first") := by decide +kernel
theorem cf_first (z : Int) (l : Addr) : (cflds z l).lookup ("first" : Str) = some (.int z) := by simp [cflds, List.lookup]
theorem cf_fades (z : Int) (l : Addr) : (cflds z l).lookup ("fades" : Str) = some (.ref l) := by
  have e : (("fades" : Str) == ("first" : Str)) = false := by simpa using nff2
  simp [cflds, List.lookup, e]
theorem cf_no (z : Int) (l : Addr) {m : Str} (h1 : ¬ m = ("first" : Str)) (h2 : ¬ m = ("fades" : Str)) : (cflds z l).lookup m = none := by
  have e1 : (m == ("first" : Str)) = false := by simpa using h1
  have e2 : (m == ("fades" : Str)) = false := by simpa using h2
  simp [cflds, List.lookup, e1, e2]
theorem cf_make (z : Int) (l : Addr) : putF "fades" (.ref l) (putF "first" (.int z) []) = cflds z l := by
  simp [putF, cflds, nff]
theorem cf_put (z : Int) (l l' : Addr) : putF "fades" (.ref l') (cflds z l) = cflds z l' := by
  simp [putF, cflds, nff]
structure CrsAt (K : PySem.W.Frag) (H : Hp) (p : Addr) (c : Crs) : Prop where
  ob : ∃ dx l ts, H p = some (.ins (cC K) dx (cflds c.first l)) ∧ H l = some (.lst (ts.map V.ref)) ∧ TupsAt H ts c.fades
/-- a course stays where all that was tracked stays -/
theorem CrsAt.same {K : PySem.W.Frag} {H H' : Hp} {p : Addr} {c : Crs} (h : CrsAt K H p c) (e : Same H H') : CrsAt K H' p c := by
  obtain ⟨dx, l, ts, h1, h2, h3⟩ := h.ob
  exact ⟨dx, l, ts, e _ _ h1, e _ _ h2, h3.mono fun t xs q => e _ _ q⟩
theorem made_same {H H1 : Hp} {C x dx : Addr} (hx : H x = none) (hd : H dx = none) (k : ∀ b o, upd (upd H dx (.own x)) x (.ins C dx []) b = some o → b ≠ x → H1 b = some o) : Same H H1 := fun b o e => by
  refine k b o ?_ (ne_of_none e hx)
  rw [upd_ne (ne_of_none e hx), upd_ne (ne_of_none e hd)]
  exact e
theorem CrsAt.list {K : PySem.W.Frag} {H H' : Hp} {p : Addr} {c : Crs} (h : CrsAt K H p c) (k : ∀ b o, H b = some o → b ≠ p → H' b = some o) {a : Addr} {xs : List V} (hS : SqL K H a xs) : SqL K H' a xs := by
  obtain ⟨dx, l, ts, h1, _, _⟩ := h.ob
  rcases hS with (q | ⟨o, q⟩) | q
  · exact .inl (.inl (k _ _ q (ne_of q h1 (by intro z; cases z))))
  · exact .inl (.inr ⟨o, k _ _ q (ne_of q h1 (by intro z; cases z))⟩)
  · exact .inr q
theorem CrsAt.tup {K : PySem.W.Frag} {H H' : Hp} {p : Addr} {c : Crs} (h : CrsAt K H p c) (k : ∀ b o, H b = some o → b ≠ p → H' b = some o) {a : Addr} {xs : List V} (e : H a = some (.tup xs)) : H' a = some (.tup xs) := by
  obtain ⟨dx, l, ts, h1, _, _⟩ := h.ob
  exact k _ _ e (ne_of e h1 (by intro z; cases z))
def FPy (fs : List Fade) : List PyData := fs.map fun f => .tuple [.int f.out, .int f.start, .int f.fin, .int f.len]
theorem fpy_lay : ∀ fs : List Fade, PyData.canLayAll0 (FPy fs) = true
  | [] => by simp [FPy, PyData.canLayAll0]
  | f :: r => by
    have ih := fpy_lay r
    unfold FPy at ih ⊢
    simp [PyData.canLayAll0, PyData.canLay0, ih]
theorem fpy_depth : ∀ fs : List Fade, PyData.depthAll (FPy fs) ≤ 1
  | [] => by simp [FPy, PyData.depthAll]
  | f :: r => by
    have ih := fpy_depth r
    unfold FPy at ih ⊢
    simp only [List.map_cons, PyData.depthAll, PyData.depth]
    omega
theorem fpy_shaped (fs : List Fade) : SeqAt.shaped (.list (FPy fs)) = true := by
  unfold SeqAt.shaped
  rw [Bool.and_eq_true]
  refine ⟨by simp only [PyData.canLay0]; exact fpy_lay fs, decide_eq_true ?_⟩
  have h := fpy_depth fs
  simp only [PyData.depth]
  omega
theorem dp_fades {K : PySem.W.Frag} {H : Hp} : ∀ {ts : List Addr} {fs : List Fade}, TupsAt H ts fs → DpAll K H (ts.map V.ref) (FPy fs)
  | [], [], _ => .nil
  | [], _ :: _, h => by cases h.1
  | _ :: _, [], h => by cases h.1
  | t :: ts, f :: fs, h => by
    have h0 : H t = some (.tup f.v) := h.2 0 t f rfl rfl
    have hr : TupsAt H ts fs := ⟨Nat.succ.inj h.1, fun i u g a b => h.2 (i + 1) u g a b⟩
    exact .cons (.tup (SqT.of h0) (.cons (.int _) (.cons (.int _) (.cons (.int _) (.cons (.int _) .nil))))) (dp_fades hr)
theorem eqv_nil (fs : List Fade) : PyData.eqv (.list (FPy fs)) (.list []) = decide (fs = []) := by
  cases fs with
  | nil => simp [FPy, PyData.eqv, PyData.eqvAll]
  | cons f r => simp [FPy, PyData.eqv, PyData.eqvAll]
/-! ### the methods -/
def spInit (K : PySem.W.Frag) : Sp := fun vs H Q _ => ∃ (p dx : Addr) (z : Int), vs = [.ref p, .int z] ∧ H p = some (.ins (cC K) dx []) ∧ ∀ H', CrsAt K H' p ⟨z, []⟩ → (∀ b o, H b = some o → b ≠ p → H' b = some o) → Q .non H'
theorem ok_Course_init (T : Txt K mg) : ∃ fd, FnOk P w K mg base CX0 1 (He.fAd K ("Course", some "__init__")) fd ["self", "worth"] (spInit K) ∧ FunD K "__init__" "Course.__init__" (defArgs s_Course_init) (defBody s_Course_init) (defScope s_Course_init) [.int 0] [] (He.fAd K ("Course", some "__init__")) fd := by
  obtain ⟨fd, F⟩ := T.c.def_ 1 (d := d_Course_init) rfl
  refine ⟨fd, F.ok sc_Course_init (fun vs H Q E h => ?_) (fun cdv A outer st H vs Q E hr h => ?_), F⟩
  · obtain ⟨_, _, _, rfl, _⟩ := h
    rfl
  · obtain ⟨p, dx, z, rfl, hp, k⟩ := h
    refine ⟨_, PSs.nox (pss_cons (ps_fld (pv 0) (pv 1) rfl)
        (pss_one (ps_fld (pv 0) (pe_lst pa_nil) rfl))), ?_⟩
    refine ⟨_, rfl, _, rfl, p, cC K, dx, [], rfl, hp, cls_Course T, na_Course_first T, (by show 0 < 1000; decide), ?_⟩
    refine ⟨small_size (Nat.le_of_ble_eq_true rfl), fun l hl => ?_⟩
    have npl : p ≠ l := ne_of_none upd_same hl
    refine ⟨_, rfl, p, cC K, dx, _, rfl, (by rw [upd_ne npl]; exact upd_same), cls_Course T, na_Course_fades T, (by show 1 < 1000; decide), ?_⟩
    refine k _ ⟨dx, l, [], ?_, ?_, rfl, fun i t f a => by cases a⟩ fun b o hb hn => ?_
    · rw [upd_same, cf_make]
    · rw [upd_ne npl.symm, upd_same]
      rfl
    · have hl' : H l = none := by
        rw [upd_ne npl.symm] at hl
        exact hl
      rw [upd_ne hn, upd_ne (ne_of_none hb hl'), upd_ne hn]
      exact hb
def spAt (K : PySem.W.Frag) : Sp := fun vs H Q _ => ∃ (p : Addr) (c : Crs) (t b : Int), vs = [.ref p, .int t, .int b] ∧ CrsAt K H p c ∧ c.Good ∧ 1 ≤ b ∧ b ≤ 1000000000000000000 ∧ Q (.int (c.pos t b)) H
theorem ok_Course_at (T : Txt K mg) : ∃ fd, FnOk P w K mg base CX0 2 (He.fAd K ("Course", some "at")) fd ["self", "top", "bottom"] (spAt K) ∧ FunD K "at" "Course.at" (defArgs s_Course_at) (defBody s_Course_at) (defScope s_Course_at) [.int 1] [] (He.fAd K ("Course", some "at")) fd := by
  obtain ⟨fd, F⟩ := T.c.def_ 2 (d := d_Course_at) rfl
  obtain ⟨fd_stand, G_stand, F_stand⟩ := ok_stand (P := P) (w := w) (base := base) T
  have kp_stand := F_stand.kp
  have b_stand : ∃ ds, Vals ([V.int 1].drop 1) ds ∧ Binds K fd_stand ["start", "end", "length", "top", "bottom"] ds := F_stand.binds1 5 1 (by decide) rfl (fun _ _ _ _ _ _ _ us its h1 h2 => match us, its, h1, h2 with | [_, _, _, _, _], [_], _, _ => ⟨_, rfl, rfl⟩)
  obtain ⟨d0, v0_stand, b0_stand⟩ := b_stand
  refine ⟨fd, F.ok sc_Course_at (fun vs H Q E h => ?_) (fun cdv A outer st H vs Q E hr h => ?_), F⟩
  · obtain ⟨_, _, _, _, rfl, _⟩ := h
    rfl
  · obtain ⟨p, c, t, b, rfl, hc, hg, b0, b1, k⟩ := h
    obtain ⟨dx, l, ts, h1, h2, h3⟩ := hc.ob
    refine ⟨_, PSs.nox (pss_cons (ps_for PassesOwn.never rfl (pi_reversed (by rfl) (free_reversed T) (pa_cons (pe_fld (pv 0) rfl) pa_nil)) (pg_tup rfl (pgs_cons (pg_name (i := 3) sc_Course_at.nd rfl (Or.inl rfl)) (pgs_cons (pg_name (i := 4) sc_Course_at.nd rfl (Or.inl rfl)) (pgs_cons (pg_name (i := 5) sc_Course_at.nd rfl (Or.inl rfl)) (pgs_cons (pg_name (i := 6) sc_Course_at.nd rfl (Or.inl rfl)) pgs_nil))))) (pss_one (ps_if (pt_cmpR op_le (pe_op op_mul (pv 3) (pv 2)) (pv 1) (nomark _)) (pss_one (ps_ret (pe_call G_stand (hr.mono (by decide)) rfl (glo_stand T) kp_stand b0_stand v0_stand pass0 (pa_cons (pv 4) (pa_cons (pv 5) (pa_cons (pv 6) (pa_cons (pe_op op_sub (pv 1) (pe_op op_mul (pv 3) (pv 2))) (pa_cons (pv 2) pa_nil)))))))) pss_nil)))
        (pss_one (ps_ret (pe_fld (pv 0) rfl)))), ?_⟩
    refine ⟨_, rfl, p, cC K, dx, _, _, rfl, h1, cls_Course T, na_Course_fades T, cf_fades _ _, l, ts.map V.ref, rfl, SqL.of h2, ?_⟩
    refine RT.for_Itv (K := K) (a := l) (xs := ts.map V.ref) (fun i σ' H' => ∃ v3 v4 v5 v6, σ' = [some (.ref p), some (.int t), some (.int b), v3, v4, v5, v6] ∧ H' = H ∧ c.pos t b = look c.first t b (c.fades.reverse.drop i))
      ⟨_, _, _, _, rfl, rfl, rfl⟩ (fun i σ' H' ⟨_, _, _, _, _, e, _⟩ => by rw [e]; exact SqL.of h2) ?_ ?_
    · rintro i x σ' H' hi hx ⟨v3, v4, v5, v6, rfl, rfl, hl⟩
      rw [List.length_map] at hi hx
      obtain ⟨u, hu, rfl⟩ : ∃ u, ts[ts.length - 1 - i]? = some u ∧ x = V.ref u := by
        rw [List.getElem?_map] at hx
        cases e : ts[ts.length - 1 - i]? with
        | none =>
          rw [e] at hx
          cases hx
        | some u =>
          rw [e] at hx
          exact ⟨u, rfl, (Option.some.inj hx).symm⟩
      have hlen := h3.1
      have hj : c.fades.length - 1 - i < c.fades.length := by omega
      have hf : c.fades[ts.length - 1 - i]? = some c.fades[c.fades.length - 1 - i] := by
        rw [hlen]
        exact List.getElem?_eq_getElem hj
      have ht := h3.2 _ u _ hu hf
      have hgf := hg.fs _ (List.getElem_mem hj)
      have hir : i < c.fades.reverse.length := by
        rw [List.length_reverse]
        omega
      have hd : c.fades.reverse.drop i = c.fades[c.fades.length - 1 - i] :: c.fades.reverse.drop (i + 1) := by
        rw [List.drop_eq_getElem_cons hir, List.getElem_reverse]
      rw [hd] at hl
      generalize c.fades[c.fades.length - 1 - i] = f at ht hgf hl
      obtain ⟨⟨s0, s1⟩, ⟨e0, e1⟩, ⟨l0, l1⟩⟩ := hgf
      refine ⟨u, _, rfl, SqT.of ht, rfl, ?_⟩
      walk_at "rds"
      walk_at "ri" <;> intro c1
      · have q : c.pos t b = stand f.start f.fin f.len (t - f.out * b) b := by
          rw [hl, look_yes c1]
        rw [q] at k
        have hfit : Fits f.start f.fin f.len b := ⟨s0, s1, e0, e1, l0, l1, b0, b1⟩
        walk_at "rds"
        exact k
      · refine ⟨_, _, _, _, rfl, rfl, ?_⟩
        rw [hl, look_no c1]
    · rintro σ' H' ⟨v3, v4, v5, v6, rfl, rfl, hl⟩
      have q : c.pos t b = c.first := by
        rw [hl]
        have e : c.fades.reverse.drop (ts.map V.ref).length = [] := by
          rw [List.length_map, h3.1]
          exact List.drop_eq_nil_of_le (by rw [List.length_reverse]; exact Nat.le_refl _)
        rw [e]
        rfl
      rw [q] at k
      exact ⟨_, rfl, p, cC K, dx, _, _, rfl, h1, cls_Course T, na_Course_first T, cf_first _ _, k⟩
def spAim (K : PySem.W.Frag) : Sp := fun vs H Q _ => ∃ (p : Addr) (c : Crs), vs = [.ref p] ∧ CrsAt K H p c ∧ ∀ H', Same H H' → Q (.int c.aim) H'
theorem fades_last {ts : List Addr} {fs : List Fade} {H : Hp} (h : TupsAt H ts fs) (hn : ¬ fs = []) : ∃ (t : Addr) (f : Fade), atI (ts.map V.ref) (-1) = some (V.ref t) ∧ fs.getLast? = some f ∧ H t = some (.tup f.v) := by
  have hl : 0 < fs.length := List.length_pos_iff.mpr hn
  have e := h.1
  have hj : ts.length - 1 < ts.length := by omega
  have hk : fs.length - 1 < fs.length := by omega
  refine ⟨ts[ts.length - 1], fs[fs.length - 1], ?_, ?_, ?_⟩
  · have hx : (ts.map V.ref)[ts.length - 1]? = some (V.ref ts[ts.length - 1]) := by
      rw [List.getElem?_map, List.getElem?_eq_getElem hj]
      rfl
    unfold atI ixN
    rw [if_neg (by decide), if_pos (by rw [List.length_map]; omega), Option.bind_some, List.length_map]
    have e2 : ((-1 : Int) + (ts.length : Int)).toNat = ts.length - 1 := by omega
    rw [e2]
    exact hx
  · rw [List.getLast?_eq_getElem?]
    exact List.getElem?_eq_getElem hk
  · exact h.2 (ts.length - 1) _ _ (List.getElem?_eq_getElem hj) (by rw [e]; exact List.getElem?_eq_getElem hk)
theorem ok_Course_aim (T : Txt K mg) : ∃ fd, FnOk P w K mg base CX0 1 (He.fAd K ("Course", some "aim")) fd ["self"] (spAim K) ∧ Binds K fd ["self"] [] ∧ PySem.W.keepIn K (.ref (He.fAd K ("Course", some "aim"))) = true := by
  obtain ⟨fd, F⟩ := T.c.def_ 4 (d := d_Course_aim) rfl
  refine ⟨fd, F.ok sc_Course_aim (fun vs H Q E h => ?_) (fun cdv A outer st H vs Q E hr h => ?_), FunD.bindsN F (fun _ _ _ _ _ _ us hl => match us, hl with | [_], _ => rfl), F.kp⟩
  · obtain ⟨_, _, rfl, _⟩ := h
    rfl
  · obtain ⟨p, c, rfl, hc, k⟩ := h
    obtain ⟨dx, l, ts, h1, h2, h3⟩ := hc.ob
    refine ⟨_, PSs.nox (pss_cons (ps_if (pt_cmpR (op_eqD hr.units) (pe_fld (pv 0) rfl) (pe_lst pa_nil) (nomark _)) (pss_one (ps_ret (pe_fld (pv 0) rfl))) pss_nil)
        (pss_one (ps_ret (pe_ix ix_tup (pe_ix ix_list (pe_fld (pv 0) rfl) pe_negC (fun _ _ => rfl)) pe_int (fun _ _ => rfl))))), ?_⟩
    refine ⟨_, rfl, p, cC K, dx, _, _, rfl, h1, cls_Course T, na_Course_fades T, cf_fades _ _, small_size (Nat.le_of_ble_eq_true rfl), fun e he => ?_⟩
    have s1 := (Same.refl H).new (o := HO.lst []) he
    have h3' : TupsAt (upd H e (HO.lst [])) ts c.fades := h3.mono fun t xs q => s1 _ _ q
    refine ⟨_, _, .lst (SqL.of (s1 _ _ h2)) (dp_fades h3'), .lst (SqL.of upd_same) .nil, fpy_shaped _, by decide, ?_⟩
    rw [eqv_nil]
    walk_at "rds"
    walk_at "ri" <;> intro c1
    · refine ⟨_, rfl, p, cC K, dx, _, _, rfl, s1 _ _ h1, cls_Course T, na_Course_first T, cf_first _ _, ?_⟩
      have q := k _ s1
      unfold Crs.aim at q
      rw [c1] at q
      exact q
    · obtain ⟨t, f, e1, e2, e3⟩ := fades_last h3 c1
      refine ⟨_, rfl, p, cC K, dx, _, _, rfl, s1 _ _ h1, cls_Course T, na_Course_fades T, cf_fades _ _, l, _, _, _, rfl, rfl, SqL.of (s1 _ _ h2), e1, t, _, _, _, rfl, rfl, SqT.of (s1 _ _ e3), rfl, ?_⟩
      have q := k _ s1
      unfold Crs.aim at q
      rw [e2] at q
      exact q
def spStill (K : PySem.W.Frag) : Sp := fun vs H Q _ => ∃ (p : Addr) (c : Crs), vs = [.ref p] ∧ CrsAt K H p c ∧ ∀ H', Same H H' → Q (.int c.still) H'
theorem ok_Course_still (T : Txt K mg) : ∃ fd, FnOk P w K mg base CX0 1 (He.fAd K ("Course", some "still")) fd ["self"] (spStill K) ∧ Binds K fd ["self"] [] ∧ PySem.W.keepIn K (.ref (He.fAd K ("Course", some "still"))) = true := by
  obtain ⟨fd, F⟩ := T.c.def_ 5 (d := d_Course_still) rfl
  refine ⟨fd, F.ok sc_Course_still (fun vs H Q E h => ?_) (fun cdv A outer st H vs Q E hr h => ?_), FunD.bindsN F (fun _ _ _ _ _ _ us hl => match us, hl with | [_], _ => rfl), F.kp⟩
  · obtain ⟨_, _, rfl, _⟩ := h
    rfl
  · obtain ⟨p, c, rfl, hc, k⟩ := h
    obtain ⟨dx, l, ts, h1, h2, h3⟩ := hc.ob
    refine ⟨_, PSs.nox (pss_cons (ps_if (pt_cmpR (op_eqD hr.units) (pe_fld (pv 0) rfl) (pe_lst pa_nil) (nomark _)) (pss_one (ps_ret pe_int)) pss_nil)
        (pss_one (ps_ret (pe_op op_add (pe_ix ix_tup (pe_ix ix_list (pe_fld (pv 0) rfl) pe_negC (fun _ _ => rfl)) pe_int (fun _ _ => rfl)) (pe_ix ix_tup (pe_ix ix_list (pe_fld (pv 0) rfl) pe_negC (fun _ _ => rfl)) pe_int (fun _ _ => rfl)))))), ?_⟩
    refine ⟨_, rfl, p, cC K, dx, _, _, rfl, h1, cls_Course T, na_Course_fades T, cf_fades _ _, small_size (Nat.le_of_ble_eq_true rfl), fun e he => ?_⟩
    have s1 := (Same.refl H).new (o := HO.lst []) he
    have h3' : TupsAt (upd H e (HO.lst [])) ts c.fades := h3.mono fun t xs q => s1 _ _ q
    refine ⟨_, _, .lst (SqL.of (s1 _ _ h2)) (dp_fades h3'), .lst (SqL.of upd_same) .nil, fpy_shaped _, by decide, ?_⟩
    rw [eqv_nil]
    walk_at "rds"
    walk_at "ri" <;> intro c1
    · have q := k _ s1
      unfold Crs.still at q
      rw [c1] at q
      exact q
    · obtain ⟨t, f, e1, e2, e3⟩ := fades_last h3 c1
      refine ⟨_, rfl, p, cC K, dx, _, _, rfl, s1 _ _ h1, cls_Course T, na_Course_fades T, cf_fades _ _, l, _, _, _, rfl, rfl, SqL.of (s1 _ _ h2), e1, t, _, _, _, rfl, rfl, SqT.of (s1 _ _ e3), rfl, ?_⟩
      refine ⟨_, rfl, p, cC K, dx, _, _, rfl, s1 _ _ h1, cls_Course T, na_Course_fades T, cf_fades _ _, l, _, _, _, rfl, rfl, SqL.of (s1 _ _ h2), e1, t, _, _, _, rfl, rfl, SqT.of (s1 _ _ e3), rfl, ?_⟩
      have q := k _ s1
      unfold Crs.still at q
      rw [e2] at q
      exact ⟨_, _, rfl, rfl, q⟩
theorem ref_at {ts : List Addr} {i : Nat} {y : V} (h : (ts.map V.ref)[i]? = some y) : ∃ u, y = V.ref u ∧ ts[i]? = some u ∧ i < ts.length := by
  rw [List.getElem?_map] at h
  cases e : ts[i]? with
  | none =>
    rw [e] at h
    cases h
  | some u =>
    rw [e] at h
    exact ⟨u, (Option.some.inj h).symm, rfl, (List.getElem?_eq_some_iff.mp e).1⟩
theorem take_snoc {α : Type} {l : List α} {i : Nat} {x : α} (h : l[i]? = some x) : l.take (i + 1) = l.take i ++ [x] := by
  rw [List.take_add_one, h]
  rfl
theorem kept_yes {o : Int} {fs : List Fade} {f : Fade} (h : f.out < o) : kept o (fs ++ [f]) = kept o fs ++ [f] := by
  unfold kept
  rw [List.filter_append, List.filter_cons, if_pos (by simpa using h)]
  rfl
theorem kept_no {o : Int} {fs : List Fade} {f : Fade} (h : ¬ f.out < o) : kept o (fs ++ [f]) = kept o fs := by
  unfold kept
  rw [List.filter_append, List.filter_cons, if_neg (by simpa using h)]
  exact List.append_nil _
def spTell (K : PySem.W.Frag) : Sp := fun vs H Q _ => ∃ (p : Addr) (c : Crs) (now wait rise fall fin : Int), vs = [.ref p, .int now, .int wait, .int rise, .int fall, .int fin] ∧ CrsAt K H p c ∧ c.Good ∧ c.fades.length ≤ 1000 ∧
  ∀ H', CrsAt K H' p (c.tell now wait rise fall fin) → (∀ b o, H b = some o → b ≠ p → H' b = some o) → Q .non H'
theorem ok_Course_tell (T : Txt K mg) : ∃ fd, FnOk P w K mg base CX0 3 (He.fAd K ("Course", some "tell")) fd ["self", "now", "wait", "rise", "fall", "end"] (spTell K) ∧ Binds K fd ["self", "now", "wait", "rise", "fall", "end"] [] ∧ PySem.W.keepIn K (.ref (He.fAd K ("Course", some "tell"))) = true := by
  obtain ⟨fd, F⟩ := T.c.def_ 3 (d := d_Course_tell) rfl
  obtain ⟨fd_at, G_Course_at, F_at⟩ := ok_Course_at (P := P) (w := w) (base := base) T
  have b_at : ∃ ds, Vals ([V.int 1].drop 0) ds ∧ Binds K fd_at ["self", "top", "bottom"] ds := F_at.binds1 2 0 (by decide) rfl (fun _ _ _ _ _ _ _ us its h1 h2 => match us, its, h1, h2 with | [_, _], [_], _, _ => ⟨_, rfl, rfl⟩)
  obtain ⟨d1, v1_Course_at, b1_Course_at⟩ := b_at
  refine ⟨fd, F.ok sc_Course_tell (fun vs H Q E h => ?_) (fun cdv A outer st H vs Q E hr h => ?_), FunD.bindsN F (fun _ _ _ _ _ _ us hl => match us, hl with | [_, _, _, _, _, _], _ => rfl), F.kp⟩
  · obtain ⟨_, _, _, _, _, _, _, rfl, _⟩ := h
    rfl
  · obtain ⟨p, c, now, wait, rise, fall, fin, rfl, hc, hg, hlen, k⟩ := h
    obtain ⟨dx, l, ts, h1, h2, h3⟩ := hc.ob
    refine ⟨_, PSs.nox (pss_cons (ps_set (i := 6) sc_Course_tell.nd rfl (Or.inr rfl) (pe_op op_add (pv 1) (pv 2)))
        (pss_cons (ps_fld (pv 0) (pe_lc (own := [("fade", 9)]) (g := gName 9) rfl sc_Course_tell.nd (pi_list (pe_fld (pv 0) rfl)) (blkOk_by (own := [("fade", 9)]) (N := ["self", "now", "wait", "rise", "fall", "end", "out", "start", "length", "fade"]) (sc := defScope s_Course_tell) (by decide +kernel)) (fun _ _ _ _ _ => pg_name (i := 9) sc_Course_tell.nd rfl (Or.inl rfl)) (fun _ _ _ _ _ => (pts_one (pt_cmpR op_lt (pe_ix (show IxR _ (rIxT K) from ix_tup) (pv 9) pe_int (fun _ _ => rfl)) (pv 6) (nomark _)))) (fun _ _ _ _ _ => (pv 9))) rfl)
        (pss_cons (ps_set (i := 7) sc_Course_tell.nd rfl (Or.inl rfl) (pe_meth (pv 0) (cls_Course T) (m_Course_at T) G_Course_at (hr.mono (by decide)) b1_Course_at v1_Course_at pass0 (pa_cons (pv 6) pa_nil)))
        (pss_cons (ps_set (i := 8) sc_Course_tell.nd rfl (Or.inl rfl) (pv 4))
        (C8.pss_cut (ps_if (pt_cmpR op_gt (pv 5) (pv 7) (nomark _)) (pss_one (ps_set (i := 8) sc_Course_tell.nd rfl (Or.inl rfl) (pv 3))) pss_nil)
        (pss_one (ps_expr (pe_bm PySem.F.plainAttrs_list PySem.F.slot_list_append PySem.F.type_list_append mt_append (pe_fld (pv 0) rfl) (pa_cons (pe_tup (pa_cons (pv 6) (pa_cons (pv 7) (pa_cons (pv 5) (pa_cons (pv 8) pa_nil))))) pa_nil))))))))), ?_⟩
    walk_at "rds"
    refine ⟨p, cC K, dx, _, _, rfl, h1, cls_Course T, na_Course_fades T, cf_fades _ _, l, rfl, ⟨_, SqL.of h2⟩, fun D hD => ?_⟩
    have npD : p ≠ D := ne_of_none h1 hD
    refine lc_list (K := K) (a := l) (xs := ts.map V.ref) (fun i H' => ∃ acc : List Addr, H' D = some (.lst (acc.map V.ref)) ∧ acc.length ≤ i ∧ TupsAt H acc (kept (now + wait) (c.fades.take i)) ∧ Same H H')
      ⟨[], upd_same, Nat.le_refl _, ⟨rfl, fun i t f a => by cases a⟩, (Same.refl H).new hD⟩ (fun i H' _ ⟨_, _, _, _, s⟩ => s.seq (SqL.of h2)) ?_ ?_
    · rintro i y H' hi ⟨acc, hacc, hal, hta, s⟩
      obtain ⟨u, rfl, hu, hlt⟩ := ref_at hi
      have hlt2 : i < c.fades.length := by
        rw [← h3.1]
        exact hlt
      have hf : c.fades[i]? = some c.fades[i] := List.getElem?_eq_getElem hlt2
      have ht := h3.2 _ u _ hu hf
      rw [take_snoc hf]
      generalize c.fades[i] = f at ht
      refine ⟨rfl, ?_⟩
      refine ⟨_, rfl, u, _, _, _, rfl, rfl, SqT.of (s _ _ ht), rfl, ?_⟩
      walk_at "rds"
      walk_at "ri" <;> intro c1
      · walk_at "rds"
        refine ⟨acc.map V.ref, hacc, ?_, acc ++ [u], ?_, ?_, ?_, s.mut hD⟩
        · rw [List.length_map]
          have := h3.1
          exact Nat.lt_of_le_of_lt (show acc.length ≤ 1000 by omega) (by decide)
        · rw [upd_same, List.map_append]
          rfl
        · rw [List.length_append]
          show acc.length + 1 ≤ i + 1
          omega
        · rw [kept_yes c1]
          exact hta.snoc ht
      · rw [kept_no c1]
        exact ⟨acc, hacc, by omega, hta, s⟩
    rintro H1 ⟨acc, hacc, hal, hta, s1⟩
    rw [List.length_map, h3.1, List.take_length] at hta
    rw [List.length_map, h3.1] at hal
    refine ⟨_, rfl, p, cC K, dx, _, rfl, s1 _ _ h1, cls_Course T, na_Course_fades T, (by show 2 < 1000; decide), ?_⟩
    rw [cf_put]
    have hpD : D ≠ p := fun e => npD e.symm
    have hT : ∀ t xs, H t = some (.tup xs) → upd H1 p (.ins (cC K) dx (cflds c.first D)) t = some (.tup xs) := fun t xs e => by
      rw [upd_ne (ne_of e h1 (by intro z; cases z))]
      exact s1 _ _ e
    have hc2 : CrsAt K (upd H1 p (.ins (cC K) dx (cflds c.first D))) p ⟨c.first, kept (now + wait) c.fades⟩ := ⟨dx, D, acc, upd_same, by rw [upd_ne hpD]; exact hacc, hta.mono hT⟩
    have hg2 : (Crs.mk c.first (kept (now + wait) c.fades)).Good := ⟨hg.f, kept_good hg.fs⟩
    refine ⟨_, rfl, p, dx, _, rfl, upd_same, cf_no _ _ (by decide +kernel) (by decide +kernel), _, rfl, p, _, now + wait, 1, rfl, hc2, hg2, by decide, by decide, ?_⟩
    walk_at "nf"
    have q : Crs.pos ⟨c.first, kept (now + wait) c.fades⟩ (now + wait) 1 = look c.first (now + wait) 1 (kept (now + wait) c.fades).reverse := rfl
    rw [q]
    have kk : c.tell now wait rise fall fin = ⟨c.first, kept (now + wait) c.fades ++ [⟨now + wait, look c.first (now + wait) 1 (kept (now + wait) c.fades).reverse, fin, if look c.first (now + wait) 1 (kept (now + wait) c.fades).reverse < fin then rise else fall⟩]⟩ := rfl
    rw [kk] at k
    generalize look c.first (now + wait) 1 (kept (now + wait) c.fades).reverse = s at k ⊢
    walk_at "rds"
    refine ⟨fun σ' H' => ∃ y : Int, σ' = [some (.ref p), some (.int now), some (.int wait), some (.int rise), some (.int fall), some (.int fin), some (.int (now + wait)), some (.int s), some (.int y), none] ∧ y = (if s < fin then rise else fall) ∧ H' = upd H1 p (.ins (cC K) dx (cflds c.first D)), ?_, ?_⟩
    · walk_at "rds"
      walk_at "ri" <;> intro c1
      · rw [if_pos c1]
        walk_at "rds"
        rfl
      · rw [if_neg c1]
        walk_at "rds"
        rfl
    rintro σ' H' ⟨y, rfl, hy, rfl⟩
    refine ⟨_, rfl, p, cC K, dx, _, _, rfl, upd_same, cls_Course T, na_Course_fades T, cf_fades _ _, Or.inl ⟨rfl, _, SqL.of (by rw [upd_ne hpD]; exact hacc)⟩, ?_⟩
    walk_at "rds"
    intro t ht
    have ht1 : H1 t = none := by
      by_cases e : t = p
      · rw [e, upd_same] at ht
        cases ht
      · rw [upd_ne e] at ht
        exact ht
    have ntp : p ≠ t := ne_of_none (s1 _ _ h1) ht1
    have ntD : D ≠ t := ne_of_none hacc ht1
    refine ⟨D, acc.map V.ref, .ref t, rfl, rfl, ?_, ?_, ?_⟩
    · rw [upd_ne ntD, upd_ne hpD]
      exact hacc
    · rw [List.length_map]
      exact Nat.lt_of_le_of_lt (show acc.length ≤ 1000 by omega) (by decide)
    rw [← hy] at k
    refine k _ ⟨dx, D, acc ++ [t], ?_, ?_, ?_⟩ ?_
    · rw [upd_ne npD, upd_ne ntp, upd_same]
    · rw [upd_same, List.map_append]
      rfl
    · refine TupsAt.snoc ?_ ?_
      · refine hta.mono fun u xs e => ?_
        rw [upd_ne (ne_of_none e hD), upd_ne (ne_of_none (s1 _ _ e) ht1)]
        exact hT u xs e
      · rw [upd_ne ntD.symm, upd_same]
        rfl
    · intro b o e hb
      rw [upd_ne (ne_of_none e hD), upd_ne (ne_of_none (s1 _ _ e) ht1), upd_ne hb]
      exact s1 _ _ e
/-! ### the law's small helpers -/
def spCell (K : PySem.W.Frag) : Sp := fun vs H Q _ => ∃ (a : Addr) (k : Int), vs = [.ref a, .int k] ∧ (∃ ns : List Int, SqL K H a (ns.map V.int)) ∧ 0 ≤ k ∧ ∀ r : Int, Q (.int r) H
theorem ok_l_cell_at (T : Txt K mg) : ∃ fd, FnOk P w K mg base CX0 1 (He.fAd K ("_law_cell_at", none)) fd ["_law_script", "_law_k"] (spCell K) ∧ Binds K fd ["_law_script", "_law_k"] [] ∧ PySem.W.keepIn K (.ref (He.fAd K ("_law_cell_at", none))) = true := by
  obtain ⟨fd, F⟩ := T.c.def_ 6 (d := d_l_cell_at) rfl
  refine ⟨fd, F.ok sc_l_cell_at (fun vs H Q E h => ?_) (fun cdv A outer st H vs Q E hr h => ?_), FunD.bindsN F (fun _ _ _ _ _ _ us hl => match us, hl with | [_, _], _ => rfl), F.kp⟩
  · obtain ⟨_, _, rfl, _⟩ := h
    rfl
  · obtain ⟨a, i, rfl, ⟨ns, hS⟩, i0, k⟩ := h
    refine ⟨_, PSs.nox (pss_cons (ps_if (pt_cmpR op_lt (pv 1) (pe_callB call_len_seq (by rfl) (free_len T) (by decide +kernel) (pa_cons (pv 0) pa_nil)) (nomark _)) (pss_one (ps_ret (pe_ix ix_list (pv 0) (pv 1) (fun _ _ => rfl)))) pss_nil)
        (pss_one (ps_ret pe_int))), ?_⟩
    walk_at "rds"
    refine ⟨_, _, rfl, .inl hS, ?_⟩
    walk_at "rds"
    walk_at "ri" <;> intro c1
    · obtain ⟨v, hv, hv2⟩ := atI_lt i0 c1
      obtain ⟨z, rfl, _, _⟩ := int_at hv2
      walk_at "rds"
      exact ⟨_, _, _, _, rfl, rfl, hS, hv, k _⟩
    · walk_at "rds"
      exact k _

def spWhole : Sp := fun vs H Q _ => ∃ n : Int, vs = [.int n] ∧ Q (.bl true) H
theorem ok_l_whole (T : Txt K mg) : ∃ fd, FnOk P w K mg base CX0 1 (He.fAd K ("_law_whole", none)) fd ["_law_found"] spWhole ∧ Binds K fd ["_law_found"] [] ∧ PySem.W.keepIn K (.ref (He.fAd K ("_law_whole", none))) = true := by
  obtain ⟨fd, F⟩ := T.c.def_ 7 (d := d_l_whole) rfl
  refine ⟨fd, F.ok sc_l_whole (fun vs H Q E h => ?_) (fun cdv A outer st H vs Q E hr h => ?_), FunD.bindsN F (fun _ _ _ _ _ _ us hl => match us, hl with | [_], _ => rfl), F.kp⟩
  · obtain ⟨_, rfl, _⟩ := h
    rfl
  · obtain ⟨n, rfl, k⟩ := h
    refine ⟨_, PSs.nox (pss_one (ps_ret (pe_and (pe_callB call_isi (by rfl) (free_isinstance T) (by decide +kernel) (pa_cons (pv 0) (pa_cons (pe_bltn (v := .ty "int") (by rfl) (free_int T) (by decide +kernel) rfl) pa_nil))) (pe_one (pe_not (pe_callB call_isi (by rfl) (free_isinstance T) (by decide +kernel) (pa_cons (pv 0) (pa_cons (pe_bltn (v := .ty "bool") (by rfl) (free_bool T) (by decide +kernel) rfl) pa_nil)))))))), ?_⟩
    walk_at "rds"
    exact k

def spAlike : Sp := fun vs H Q _ => ∃ n m : Int, vs = [.int n, .int m] ∧ n = m ∧ Q (.bl true) H
theorem ok_l_alike (T : Txt K mg) : ∃ fd, FnOk P w K mg base CX0 2 (He.fAd K ("_law_alike", none)) fd ["_law_found", "_law_due"] spAlike ∧ Binds K fd ["_law_found", "_law_due"] [] ∧ PySem.W.keepIn K (.ref (He.fAd K ("_law_alike", none))) = true := by
  obtain ⟨fd, F⟩ := T.c.def_ 8 (d := d_l_alike) rfl
  obtain ⟨fd_l_whole, G_l_whole, b_l_whole, kp_l_whole⟩ := ok_l_whole (P := P) (w := w) (base := base) T
  refine ⟨fd, F.ok sc_l_alike (fun vs H Q E h => ?_) (fun cdv A outer st H vs Q E hr h => ?_), FunD.bindsN F (fun _ _ _ _ _ _ us hl => match us, hl with | [_, _], _ => rfl), F.kp⟩
  · obtain ⟨_, _, rfl, _⟩ := h
    rfl
  · obtain ⟨n, m, rfl, e, k⟩ := h
    subst e
    refine ⟨_, PSs.nox (pss_one (ps_ret (pe_and (pe_call G_l_whole (hr.mono (by decide)) rfl (glo__law_whole T) kp_l_whole b_l_whole .nil pass0 (pa_cons (pv 0) pa_nil)) (pe_one (pe_cmpR op_eq (pv 0) (pv 1) (nomark _)))))), ?_⟩
    walk_at "rds"
    exact qT (Q := Q) rfl k
def spGone : Sp := fun vs H Q _ => ∃ s e l t b : Int, vs = [.int s, .int e, .int l, .int t, .int b] ∧ Fits s e l b ∧ Q (.int (stand s e l t b)) H
theorem ok_l_gone (T : Txt K mg) : ∃ fd, FnOk P w K mg base CX0 1 (He.fAd K ("_law_gone", none)) fd ["_law_start", "_law_end", "_law_length", "_law_top", "_law_lower"] spGone ∧ Binds K fd ["_law_start", "_law_end", "_law_length", "_law_top", "_law_lower"] [] ∧ PySem.W.keepIn K (.ref (He.fAd K ("_law_gone", none))) = true := by
  obtain ⟨fd, F⟩ := T.c.def_ 9 (d := d_l_gone) rfl
  refine ⟨fd, F.ok sc_l_gone (fun vs H Q E h => ?_) (fun cdv A outer st H vs Q E hr h => ?_), FunD.bindsN F (fun _ _ _ _ _ _ us hl => match us, hl with | [_, _, _, _, _], _ => rfl), F.kp⟩
  · obtain ⟨_, _, _, _, _, rfl, _⟩ := h
    rfl
  · obtain ⟨s, e, l, t, b, rfl, hf, k⟩ := h
    have hf' := hf
    obtain ⟨s0, s1, e0, e1, l0, l1, b0, b1⟩ := hf'
    refine ⟨_, PSs.nox (pss_cons (ps_if (pt_cmpR op_lt (pv 3) pe_int (nomark _)) (pss_one (ps_ret (pv 0))) pss_nil)
        (pss_cons (ps_if (pt_cmpR op_ge (pv 3) (pe_op op_mul (pv 2) (pv 4)) (nomark _)) (pss_one (ps_ret (pv 1))) pss_nil)
        (pss_cons (ps_if (pt_cmpR op_lt (pv 1) (pv 0) (nomark _)) (pss_one (ps_ret (pe_op op_sub (pv 0) (pe_op op_fdivW (pe_op op_mul (pe_op op_sub (pv 0) (pv 1)) (pv 3)) (pe_op op_mul (pv 4) (pv 2)))))) pss_nil)
        (pss_one (ps_ret (pe_op op_add (pv 0) (pe_op op_fdivW (pe_op op_mul (pe_op op_sub (pv 1) (pv 0)) (pv 3)) (pe_op op_mul (pv 4) (pv 2))))))))), ?_⟩
    unfold stand at k
    walk_at "rds"
    walk_at "ri" <;> intro c1
    · rw [if_pos c1] at k
      walk_at "rds"
      exact k
    rw [if_neg c1] at k
    walk_at "rds"
    walk_at "ri" <;> intro c2
    · rw [if_pos (by rw [Int.mul_comm]; exact c2)] at k
      walk_at "rds"
      exact k
    have c2' : ¬ b * l ≤ t := by rw [Int.mul_comm]; exact c2
    rw [if_neg c2'] at k
    have hp := bl_pos hf c1 c2'
    have hw := fun i : Int => wide_div (i := i) hp (bl_bound hf) (by decide) (by decide)
    walk_at "rds"
    walk_at "ri" <;> intro c3
    · rw [if_pos c3] at k
      have q : way s e = s - e := by
        unfold way
        rw [if_pos (by omega)]
        omega
      rw [q] at k
      walk_at "rds"
      exact ⟨hw _, _, _, rfl, rfl, k⟩
    · rw [if_neg c3] at k
      have q : way s e = e - s := by
        unfold way
        rw [if_neg (by omega)]
      rw [q] at k
      walk_at "rds"
      exact ⟨hw _, _, _, rfl, rfl, k⟩

def spSpot : Sp := fun vs H Q _ => ∃ c o l : Int, vs = [.int c, .int o, .int l] ∧ 0 ≤ o ∧ 0 ≤ l ∧ l ≤ 1000000000 ∧ ∀ (t b : Int) (p : Addr) (H' : Hp), 1 ≤ b → b ≤ 1000000000 → Same H H' → H' p = some (.tup [.int t, .int b]) → Q (.ref p) H'
theorem ok_l_spot (T : Txt K mg) : ∃ fd, FnOk P w K mg base CX0 1 (He.fAd K ("_law_spot", none)) fd ["_law_cell", "_law_out", "_law_length"] spSpot ∧ Binds K fd ["_law_cell", "_law_out", "_law_length"] [] ∧ PySem.W.keepIn K (.ref (He.fAd K ("_law_spot", none))) = true := by
  obtain ⟨fd, F⟩ := T.c.def_ 10 (d := d_l_spot) rfl
  refine ⟨fd, F.ok sc_l_spot (fun vs H Q E h => ?_) (fun cdv A outer st H vs Q E hr h => ?_), FunD.bindsN F (fun _ _ _ _ _ _ us hl => match us, hl with | [_, _, _], _ => rfl), F.kp⟩
  · obtain ⟨_, _, _, rfl, _⟩ := h
    rfl
  · obtain ⟨c, o, l, rfl, o0, l0, l1, k⟩ := h
    refine ⟨_, PSs.nox (pss_cons (ps_set (i := 3) sc_l_spot.nd rfl (Or.inl rfl) (pe_ix ix_list (pe_lst (pa_cons pe_int (pa_cons (pe_op op_add pe_int (pe_op op_mod (pe_op op_fdiv (pv 0) pe_int) pe_int)) (pa_cons (pe_op op_add pe_int (pe_op op_mod (pe_op op_fdiv (pv 0) pe_int) (pe_powC (v := 1000000000) (by rfl) (by decide +kernel)))) pa_nil)))) (pe_op op_mod (pv 0) pe_int) (fun _ _ => rfl)))
        (pss_cons (ps_set (i := 4) sc_l_spot.nd rfl (Or.inl rfl) (pe_op op_fdiv (pv 0) pe_int))
        (pss_cons (ps_if (pt_cmpR op_eq (pe_op op_mod (pe_op op_fdiv (pv 0) pe_int) pe_int) pe_int (nomark _)) (pss_one (ps_ret (pe_tup (pa_cons (pe_op op_mod (pv 4) (pe_op op_add (pe_op op_mul (pe_powC (v := 1000000000000) (by rfl) (by decide +kernel)) (pv 3)) pe_int)) (pa_cons (pv 3) pa_nil))))) pss_nil)
        (pss_cons (ps_if (pt_cmpR op_eq (pe_op op_mod (pe_op op_fdiv (pv 0) pe_int) pe_int) pe_int (nomark _)) (pss_one (ps_ret (pe_tup (pa_cons (pe_callB (call_max2 rfl) (by rfl) (free_max T) (by decide +kernel) (pa_cons pe_int (pa_cons (pe_op op_sub (pe_op op_add (pe_op op_mul (pv 1) (pv 3)) (pe_op op_mod (pv 4) pe_int)) pe_int) pa_nil))) (pa_cons (pv 3) pa_nil))))) pss_nil)
        (pss_cons (ps_if (pt_cmpR op_eq (pe_op op_mod (pe_op op_fdiv (pv 0) pe_int) pe_int) pe_int (nomark _)) (pss_one (ps_ret (pe_tup (pa_cons (pe_callB (call_max2 rfl) (by rfl) (free_max T) (by decide +kernel) (pa_cons pe_int (pa_cons (pe_op op_sub (pe_op op_add (pe_op op_mul (pe_op op_add (pv 1) (pv 2)) (pv 3)) (pe_op op_mod (pv 4) pe_int)) pe_int) pa_nil))) (pa_cons (pv 3) pa_nil))))) pss_nil)
        (pss_one (ps_ret (pe_tup (pa_cons (pe_op op_add (pe_op op_mul (pv 1) (pv 3)) (pe_op op_mod (pv 4) (pe_op op_add (pe_op op_mul (pv 2) (pv 3)) pe_int))) (pa_cons (pv 3) pa_nil)))))))))), ?_⟩
    walk_at "rds"
    intro p1 hp1
    walk_at "rds"
    obtain ⟨b, hv, hb⟩ := at3 (a := 1) (b := 1 + c / 5 % 7) (c := 1 + c / 5 % 1000000000) (k := c % 3) (by omega) (by omega)
    refine ⟨_, _, _, _, rfl, rfl, SqL.of upd_same, hv, ?_⟩
    have s1 := (Same.refl H).new (o := HO.lst [V.int 1, V.int (1 + c / 5 % 7), V.int (1 + c / 5 % 1000000000)]) hp1
    have b0 : 1 ≤ b ∧ b ≤ 1000000000 := by omega
    clear hv hb
    have h1 : 0 ≤ l * b := Int.mul_nonneg l0 (by omega)
    walk_at "nf"
    generalize upd H p1 (HO.lst [V.int 1, V.int (1 + c / 5 % 7), V.int (1 + c / 5 % 1000000000)]) = H1 at s1 ⊢
    walk_at "rds"
    walk_at "ri" <;> intro c1
    · walk_at "rds"
      intro p hp
      exact k _ _ p _ b0.1 b0.2 (s1.new hp) upd_same
    walk_at "rds"
    walk_at "ri" <;> intro c2
    · walk_at "rds"
      intro p hp
      exact k _ _ p _ b0.1 b0.2 (s1.new hp) upd_same
    walk_at "rds"
    walk_at "ri" <;> intro c3
    · walk_at "rds"
      intro p hp
      exact k _ _ p _ b0.1 b0.2 (s1.new hp) upd_same
    walk_at "rds"
    intro p hp
    exact k _ _ p _ b0.1 b0.2 (s1.new hp) upd_same
def SpotsAt (H : Hp) (us : List Addr) : Prop := ∀ u ∈ us, ∃ t b : Int, H u = some (.tup [.int t, .int b]) ∧ 1 ≤ b ∧ b ≤ 1000000000
theorem SpotsAt.same {H H' : Hp} {us : List Addr} (h : SpotsAt H us) (e : ∀ t xs, H t = some (.tup xs) → H' t = some (.tup xs)) : SpotsAt H' us := fun u hu => by
  obtain ⟨t, b, h1, h2⟩ := h u hu
  exact ⟨t, b, e _ _ h1, h2⟩
def spBare (K : PySem.W.Frag) : Sp := fun vs H Q _ => ∃ (p : Addr) (z : Int) (q : Addr) (us : List Addr), vs = [.ref p, .int z, .ref q] ∧ CrsAt K H p ⟨z, []⟩ ∧ Inr z ∧ SqL K H q (us.map V.ref) ∧ SpotsAt H us ∧ ∀ H', Same H H' → Q (.bl true) H'
theorem ok_l_bare (T : Txt K mg) : ∃ fd, FnOk P w K mg base CX0 3 (He.fAd K ("_law_bare", none)) fd ["_law_course", "_law_first", "_law_spots"] (spBare K) ∧ Binds K fd ["_law_course", "_law_first", "_law_spots"] [] ∧ PySem.W.keepIn K (.ref (He.fAd K ("_law_bare", none))) = true := by
  obtain ⟨fd, F⟩ := T.c.def_ 11 (d := d_l_bare) rfl
  obtain ⟨fd_l_alike, G_l_alike, b_l_alike, kp_l_alike⟩ := ok_l_alike (P := P) (w := w) (base := base) T
  obtain ⟨fd_at, G_Course_at, F_at⟩ := ok_Course_at (P := P) (w := w) (base := base) T
  obtain ⟨d0, v0_Course_at, b0_Course_at⟩ : ∃ ds, Vals ([V.int 1].drop 1) ds ∧ Binds K fd_at ["self", "top", "bottom"] ds := F_at.binds1 3 1 (by decide) rfl (fun _ _ _ _ _ _ _ us its h1 h2 => match us, its, h1, h2 with | [_, _, _], [_], _, _ => ⟨_, rfl, rfl⟩)
  obtain ⟨fd_aim, G_Course_aim, b_Course_aim, _⟩ := ok_Course_aim (P := P) (w := w) (base := base) T
  obtain ⟨fd_still, G_Course_still, b_Course_still, _⟩ := ok_Course_still (P := P) (w := w) (base := base) T
  refine ⟨fd, F.ok sc_l_bare (fun vs H Q E h => ?_) (fun cdv A outer st H vs Q E hr h => ?_), FunD.bindsN F (fun _ _ _ _ _ _ us hl => match us, hl with | [_, _, _], _ => rfl), F.kp⟩
  · obtain ⟨_, _, _, _, rfl, _⟩ := h
    rfl
  · obtain ⟨p, z, q, us, rfl, hc, hz, hS, hT, k⟩ := h
    have hg : (Crs.mk z []).Good := ⟨hz, fun f hf => by cases hf⟩
    obtain ⟨dx, l, ts, h1, h2, h3⟩ := hc.ob
    have nm : ∀ m : Str, ¬ m = ("first" : Str) → ¬ m = ("fades" : Str) → (cflds z l).lookup m = none := fun m a b => cf_no z l a b
    refine ⟨_, PSs.nox (pss_cons (ps_for PassesOwn.never rfl (pi_list (pv 2)) (pg_tup rfl (pgs_cons (pg_name (i := 3) sc_l_bare.nd rfl (Or.inl rfl)) (pgs_cons (pg_name (i := 4) sc_l_bare.nd rfl (Or.inl rfl)) pgs_nil))) (pss_one (ps_if (pt_not (pt_val (pe_call G_l_alike (hr.mono (by decide)) rfl (glo__law_alike T) kp_l_alike b_l_alike .nil pass0 (pa_cons (pe_meth (pv 0) (cls_Course T) (m_Course_at T) G_Course_at (hr.mono (by decide)) b0_Course_at v0_Course_at pass0 (pa_cons (pv 3) (pa_cons (pv 4) pa_nil))) (pa_cons (pv 1) pa_nil))))) (pss_one (ps_ret pe_bl)) pss_nil)))
        (pss_one (ps_ret (pe_and (pe_call G_l_alike (hr.mono (by decide)) rfl (glo__law_alike T) kp_l_alike b_l_alike .nil pass0 (pa_cons (pe_meth0 (pv 0) (cls_Course T) (m_Course_aim T) G_Course_aim (hr.mono (by decide)) b_Course_aim .nil pass0) (pa_cons (pv 1) pa_nil))) (pe_one (pe_call G_l_alike (hr.mono (by decide)) rfl (glo__law_alike T) kp_l_alike b_l_alike .nil pass0 (pa_cons (pe_meth0 (pv 0) (cls_Course T) (m_Course_still T) G_Course_still (hr.mono (by decide)) b_Course_still .nil pass0) (pa_cons pe_int pa_nil)))))))), ?_⟩
    walk_at "rds"
    refine for_list (K := K) (a := q) (xs := us.map V.ref) (fun i σ' H' => ∃ v3 v4, σ' = [some (.ref p), some (.int z), some (.ref q), v3, v4] ∧ H' = H) ⟨_, _, rfl, rfl⟩ (fun i σ' H' _ ⟨_, _, _, e⟩ => by rw [e]; exact hS) ?_ ?_
    · rintro i y σ' H' hi ⟨v3, v4, rfl, rfl⟩
      obtain ⟨u, rfl, hu, _⟩ := ref_at hi
      obtain ⟨t, b, ht, b0, b1⟩ := hT u (List.mem_of_getElem? hu)
      refine ⟨u, _, rfl, SqT.of ht, rfl, ?_⟩
      walk_at "rds"
      refine ⟨p, dx, _, rfl, h1, nm _ (by decide +kernel) (by decide +kernel), ?_⟩
      refine ⟨_, rfl, _, rfl, p, _, t, b, rfl, hc, hg, b0, by omega, ?_⟩
      walk_at "rds"
      rfl
    · rintro σ' H' ⟨v3, v4, rfl, rfl⟩
      refine ⟨_, rfl, p, dx, _, rfl, h1, nm _ (by decide +kernel) (by decide +kernel), p, _, rfl, hc, fun H1 s1 => ?_⟩
      walk_at "rds"
      refine ⟨p, dx, _, rfl, s1 _ _ h1, nm _ (by decide +kernel) (by decide +kernel), p, _, rfl, hc.same s1, fun H2 s2 => ?_⟩
      walk_at "rds"
      exact k _ (s1.trans s2)
theorem one_pos {z o e l t b : Int} : Crs.pos ⟨z, [⟨o, z, e, l⟩]⟩ t b = stand z e l (t - o * b) b := by
  show look z t b [⟨o, z, e, l⟩] = _
  by_cases h : o * b ≤ t
  · exact look_yes h
  · rw [look_no h]
    show z = _
    unfold stand
    rw [if_pos (by omega)]
theorem stand_done {z e l : Int} (h : 0 ≤ l) : stand z e l l 1 = e := by
  unfold stand
  rw [if_neg (by omega), if_pos (by omega)]
def spLaw (K : PySem.W.Frag) : Sp := fun vs H Q _ => ∃ (a : Addr) (ns : List Int), vs = [.ref a] ∧ SqL K H a (ns.map V.int) ∧ ns.length ≤ 63 ∧ (∀ z ∈ ns, Builtin.Int.intBits z ≤ 1048576) ∧ Only H ∧ ∀ H', Q (.bl true) H'
theorem ok_law (T : Txt K mg) : ∃ fd, FnOk P w K mg base CX0 6 (He.fAd K ("law", none)) fd ["_law_script"] (spLaw K) ∧ FunD K "law" "law" (defArgs s_law) (defBody s_law) (defScope s_law) [] [] (He.fAd K ("law", none)) fd := by
  obtain ⟨fd, F⟩ := T.c.def_ 12 (d := d_law) rfl
  obtain ⟨fd_l_cell_at, G_l_cell_at, b_l_cell_at, kp_l_cell_at⟩ := ok_l_cell_at (P := P) (w := w) (base := base) T
  obtain ⟨fd_l_alike, G_l_alike, b_l_alike, kp_l_alike⟩ := ok_l_alike (P := P) (w := w) (base := base) T
  obtain ⟨fd_l_gone, G_l_gone, b_l_gone, kp_l_gone⟩ := ok_l_gone (P := P) (w := w) (base := base) T
  obtain ⟨fd_l_spot, G_l_spot, b_l_spot, kp_l_spot⟩ := ok_l_spot (P := P) (w := w) (base := base) T
  obtain ⟨fd_l_bare, G_l_bare, b_l_bare, kp_l_bare⟩ := ok_l_bare (P := P) (w := w) (base := base) T
  obtain ⟨fd_init, G_Course_init, F_init⟩ := ok_Course_init (P := P) (w := w) (base := base) T
  obtain ⟨d0i, v0_Course_init, b0_Course_init⟩ : ∃ ds, Vals ([V.int 0].drop 1) ds ∧ Binds K fd_init ["self", "worth"] ds := F_init.binds1 2 1 (by decide) rfl (fun _ _ _ _ _ _ _ us its h1 h2 => match us, its, h1, h2 with | [_, _], [_], _, _ => ⟨_, rfl, rfl⟩)
  obtain ⟨d1i, v1_Course_init, b1_Course_init⟩ : ∃ ds, Vals ([V.int 0].drop 0) ds ∧ Binds K fd_init ["self", "worth"] ds := F_init.binds1 1 0 (by decide) rfl (fun _ _ _ _ _ _ _ us its h1 h2 => match us, its, h1, h2 with | [_], [_], _, _ => ⟨_, rfl, rfl⟩)
  obtain ⟨fd_at, G_Course_at, F_at⟩ := ok_Course_at (P := P) (w := w) (base := base) T
  obtain ⟨d0, v0_Course_at, b0_Course_at⟩ : ∃ ds, Vals ([V.int 1].drop 1) ds ∧ Binds K fd_at ["self", "top", "bottom"] ds := F_at.binds1 3 1 (by decide) rfl (fun _ _ _ _ _ _ _ us its h1 h2 => match us, its, h1, h2 with | [_, _, _], [_], _, _ => ⟨_, rfl, rfl⟩)
  obtain ⟨d1, v1_Course_at, b1_Course_at⟩ : ∃ ds, Vals ([V.int 1].drop 0) ds ∧ Binds K fd_at ["self", "top", "bottom"] ds := F_at.binds1 2 0 (by decide) rfl (fun _ _ _ _ _ _ _ us its h1 h2 => match us, its, h1, h2 with | [_, _], [_], _, _ => ⟨_, rfl, rfl⟩)
  have kb_Course_at := kb_all (ps := ["self", "top", "bottom"]) F_at 2 ["bottom"] (by decide) (fun _ _ _ _ _ _ _ us its ws h1 h2 h3 => match us, its, ws, h1, h2, h3 with | [_, _], [_], [_], _, _, _ => ⟨_, rfl, rfl⟩)
  obtain ⟨fd_tell, G_Course_tell, b_Course_tell, _⟩ := ok_Course_tell (P := P) (w := w) (base := base) T
  obtain ⟨fd_aim, G_Course_aim, b_Course_aim, _⟩ := ok_Course_aim (P := P) (w := w) (base := base) T
  obtain ⟨fd_still, G_Course_still, b_Course_still, _⟩ := ok_Course_still (P := P) (w := w) (base := base) T
  refine ⟨fd, F.ok sc_law (fun vs H Q E h => ?_) (fun cdv A outer st H vs Q E hr h => ?_), F⟩
  · obtain ⟨_, _, rfl, _⟩ := h
    rfl
  · obtain ⟨a, ns, rfl, hS, hlen, hbits, hO, k⟩ := h
    refine ⟨_, PSs.nox (pss_cons (ps_set (i := 1) sc_law.nd rfl (Or.inl rfl) (pe_op op_mod (pe_call G_l_cell_at (hr.mono (by decide)) rfl (glo__law_cell_at T) kp_l_cell_at b_l_cell_at .nil pass0 (pa_cons (pv 0) (pa_cons pe_int pa_nil))) (pe_op op_add (pe_powC (v := 1000000000) (by rfl) (by decide +kernel)) pe_int)))
        (pss_cons (ps_set (i := 2) sc_law.nd rfl (Or.inl rfl) (pe_make (mk_Course T) G_Course_init (hr.mono (by decide)) rfl (glo_Course T) b0_Course_init v0_Course_init pass0 (pa_cons (pv 1) pa_nil)))
        (C8.pss_cut (ps_if (pt_cmpR op_eq (pe_op op_mod (pe_call G_l_cell_at (hr.mono (by decide)) rfl (glo__law_cell_at T) kp_l_cell_at b_l_cell_at .nil pass0 (pa_cons (pv 0) (pa_cons pe_int pa_nil))) pe_int) pe_int (nomark _)) (pss_cons (ps_set (i := 1) sc_law.nd rfl (Or.inl rfl) pe_int)
        (pss_one (ps_set (i := 2) sc_law.nd rfl (Or.inl rfl) (pe_make0 (mk_Course T) G_Course_init (hr.mono (by decide)) rfl (glo_Course T) b1_Course_init v1_Course_init pass0)))) pss_nil)
        (pss_cons (ps_set (i := 3) sc_law.nd rfl (Or.inr rfl) (pe_ix ix_list (pe_lst (pa_cons pe_int (pa_cons (pe_op op_add (pe_powC (v := 1000000000) (by rfl) (by decide +kernel)) pe_int) pa_nil))) (pe_op op_mod (pe_op op_fdiv (pe_call G_l_cell_at (hr.mono (by decide)) rfl (glo__law_cell_at T) kp_l_cell_at b_l_cell_at .nil pass0 (pa_cons (pv 0) (pa_cons pe_int pa_nil))) pe_int) pe_int) (fun _ _ => rfl)))
        (pss_cons (ps_set (i := 4) sc_law.nd rfl (Or.inl rfl) (pe_op op_mod (pe_call G_l_cell_at (hr.mono (by decide)) rfl (glo__law_cell_at T) kp_l_cell_at b_l_cell_at .nil pass0 (pa_cons (pv 0) (pa_cons pe_int pa_nil))) (pe_op op_add (pe_powC (v := 100000000000) (by rfl) (by decide +kernel)) pe_int)))
        (pss_cons (ps_setLc (i := 5) (own := [("_law_k", 13)]) (g := gName 13) rfl sc_law.nd rfl rfl (sw_true rfl rfl rfl (by decide +kernel)) (pi_range1 rfl (free_range T) (pa_cons pe_int pa_nil)) (blkOk_by (own := [("_law_k", 13)]) (N := ["_law_script", "_law_first", "_law_course", "_law_most", "_law_now", "_law_times", "_law_end", "_law_length", "_law_out", "_law_spots", "_law_top", "_law_lower", "_law_due", "_law_k", "_law_cell"]) (sc := defScope s_law) (by decide +kernel)) (fun _ _ _ _ _ => pg_name (i := 13) sc_law.nd rfl (Or.inl rfl)) (fun _ _ _ _ _ => pts_nil) (fun _ _ _ _ _ => (pe_op op_mod (pe_call G_l_cell_at (hr.mono (by decide)) rfl (glo__law_cell_at T) kp_l_cell_at b_l_cell_at .nil pass0 (pa_cons (pv 0) (pa_cons (pe_op op_add pe_int (pv 13)) pa_nil))) (pv 3))))
        (pss_cons (ps_set (i := 6) sc_law.nd rfl (Or.inl rfl) (pe_op op_mod (pe_call G_l_cell_at (hr.mono (by decide)) rfl (glo__law_cell_at T) kp_l_cell_at b_l_cell_at .nil pass0 (pa_cons (pv 0) (pa_cons pe_int pa_nil))) (pe_op op_add (pe_powC (v := 1000000000) (by rfl) (by decide +kernel)) pe_int)))
        (C8.pss_cut (ps_if (pt_cmpR op_eq (pe_op op_mod (pe_op op_fdiv (pe_call G_l_cell_at (hr.mono (by decide)) rfl (glo__law_cell_at T) kp_l_cell_at b_l_cell_at .nil pass0 (pa_cons (pv 0) (pa_cons pe_int pa_nil))) pe_int) pe_int) pe_int (nomark _)) (pss_one (ps_set (i := 6) sc_law.nd rfl (Or.inl rfl) (pv 1))) pss_nil)
        (pss_cons (ps_set (i := 7) sc_law.nd rfl (Or.inr rfl) (pe_ix ix_list (pv 5) pe_int (fun _ _ => rfl)))
        (C8.pss_cut (ps_if (pt_cmpR op_gt (pv 6) (pv 1) (nomark _)) (pss_one (ps_set (i := 7) sc_law.nd rfl (Or.inr rfl) (pe_ix ix_list (pv 5) pe_int (fun _ _ => rfl)))) pss_nil)
        (pss_cons (ps_set (i := 8) sc_law.nd rfl (Or.inr rfl) (pe_op op_add (pv 4) (pe_ix ix_list (pv 5) pe_int (fun _ _ => rfl))))
        (pss_cons (ps_setLc (i := 9) (own := [("_law_cell", 14)]) (g := gName 14) rfl sc_law.nd rfl rfl (sw_true rfl rfl rfl (by decide +kernel)) (pi_list (pe_slice sl_list (pv 0) (po_some pe_int) (po_some pe_int))) (blkOk_by (own := [("_law_cell", 14)]) (N := ["_law_script", "_law_first", "_law_course", "_law_most", "_law_now", "_law_times", "_law_end", "_law_length", "_law_out", "_law_spots", "_law_top", "_law_lower", "_law_due", "_law_k", "_law_cell"]) (sc := defScope s_law) (by decide +kernel)) (fun _ _ _ _ _ => pg_name (i := 14) sc_law.nd rfl (Or.inl rfl)) (fun _ _ _ _ _ => pts_nil) (fun _ _ _ _ _ => (pe_call G_l_spot (hr.mono (by decide)) rfl (glo__law_spot T) kp_l_spot b_l_spot .nil pass0 (pa_cons (pv 14) (pa_cons (pv 8) (pa_cons (pv 7) pa_nil))))))
        (pss_cons (ps_if (pt_not (pt_val (pe_call G_l_bare (hr.mono (by decide)) rfl (glo__law_bare T) kp_l_bare b_l_bare .nil pass0 (pa_cons (pv 2) (pa_cons (pv 1) (pa_cons (pv 9) pa_nil)))))) (pss_one (ps_ret pe_bl)) pss_nil)
        (pss_cons (ps_if (pt_cmpR op_notN (pe_meth (pv 2) (cls_Course T) (m_Course_tell T) G_Course_tell (hr.mono (by decide)) b_Course_tell .nil pass0 (pa_cons (pv 4) (pa_cons (pe_ix ix_list (pv 5) pe_int (fun _ _ => rfl)) (pa_cons (pe_ix ix_list (pv 5) pe_int (fun _ _ => rfl)) (pa_cons (pe_ix ix_list (pv 5) pe_int (fun _ _ => rfl)) (pa_cons (pv 6) pa_nil)))))) pe_non (nomark _)) (pss_one (ps_ret pe_bl)) pss_nil)
        (pss_cons (ps_for PassesOwn.never rfl (pi_list (pv 9)) (pg_tup rfl (pgs_cons (pg_name (i := 10) sc_law.nd rfl (Or.inl rfl)) (pgs_cons (pg_name (i := 11) sc_law.nd rfl (Or.inl rfl)) pgs_nil))) (pss_cons (ps_set (i := 12) sc_law.nd rfl (Or.inl rfl) (pe_call G_l_gone (hr.mono (by decide)) rfl (glo__law_gone T) kp_l_gone b_l_gone .nil pass0 (pa_cons (pv 1) (pa_cons (pv 6) (pa_cons (pv 7) (pa_cons (pe_op op_sub (pv 10) (pe_op op_mul (pv 8) (pv 11))) (pa_cons (pv 11) pa_nil)))))))
        (pss_one (ps_if (PW.pt (pw_or (pt_not (pt_val (pe_call G_l_alike (hr.mono (by decide)) rfl (glo__law_alike T) kp_l_alike b_l_alike .nil pass0 (pa_cons (pe_meth (pv 2) (cls_Course T) (m_Course_at T) G_Course_at (hr.mono (by decide)) b0_Course_at v0_Course_at pass0 (pa_cons (pv 10) (pa_cons (pv 11) pa_nil))) (pa_cons (pv 12) pa_nil))))) (pw_or1 (pt_not (pt_val (pe_call G_l_alike (hr.mono (by decide)) rfl (glo__law_alike T) kp_l_alike b_l_alike .nil pass0 (pa_cons (pe_methN (pv 2) (cls_Course T) (m_Course_at T) G_Course_at (hr.mono (by decide)) kb_Course_at pass0 (pa_cons (pv 10) pa_nil) (pk_cons (pv 11) pk_nil)) (pa_cons (pv 12) pa_nil)))))))) (pss_one (ps_ret pe_bl)) pss_nil))))
        (pss_cons (ps_if (pt_not (pt_val (pe_call G_l_alike (hr.mono (by decide)) rfl (glo__law_alike T) kp_l_alike b_l_alike .nil pass0 (pa_cons (pe_meth (pv 2) (cls_Course T) (m_Course_at T) G_Course_at (hr.mono (by decide)) b1_Course_at v1_Course_at pass0 (pa_cons (pe_op op_add (pv 8) (pv 7)) pa_nil)) (pa_cons (pv 6) pa_nil))))) (pss_one (ps_ret pe_bl)) pss_nil)
        (pss_one (ps_ret (pe_and (pe_call G_l_alike (hr.mono (by decide)) rfl (glo__law_alike T) kp_l_alike b_l_alike .nil pass0 (pa_cons (pe_meth0 (pv 2) (cls_Course T) (m_Course_aim T) G_Course_aim (hr.mono (by decide)) b_Course_aim .nil pass0) (pa_cons (pv 6) pa_nil))) (pe_one (pe_call G_l_alike (hr.mono (by decide)) rfl (glo__law_alike T) kp_l_alike b_l_alike .nil pass0 (pa_cons (pe_meth0 (pv 2) (cls_Course T) (m_Course_still T) G_Course_still (hr.mono (by decide)) b_Course_still .nil pass0) (pa_cons (pe_op op_add (pv 8) (pv 7)) pa_nil))))))))))))))))))))))), ?_⟩
    walk_at "rz"
    rename_i z0
    intro x dx hx hdx ne
    have hz0 : Inr (z0 % (1000000000 + 1)) := ⟨by omega, by omega⟩
    walk_at "nf"
    generalize z0 % (1000000000 + 1) = z at hz0 ⊢
    refine ⟨x, dx, z, rfl, upd_same, fun H1 hc1 kp1 => ⟨rfl, ?_⟩⟩
    have s1 := made_same hx hdx kp1
    have hS1 := s1.seq hS
    clear kp1
    refine ⟨fun σ' H' => ∃ (z : Int) (x : Addr), σ' = [some (.ref a), some (.int z), some (.ref x), none, none, none, none, none, none, none, none, none, none, none, none] ∧ Inr z ∧ CrsAt K H' x ⟨z, []⟩ ∧ Same H H', ?_, ?_⟩
    · walk_at "rz"
      walk_at "ri" <;> intro c1
      · walk_at "rz"
        intro x2 dx2 hx2 hdx2 ne2
        refine ⟨x2, dx2, 0, rfl, upd_same, fun H2 hc2 kp2 => ⟨rfl, ?_⟩⟩
        exact ⟨0, x2, rfl, ⟨by decide, by decide⟩, hc2, s1.trans (made_same hx2 hdx2 kp2)⟩
      · exact ⟨z, x, rfl, hz0, hc1, s1⟩
    clear hz0 hc1 s1 hS1
    rintro σ' H2 ⟨z, x, rfl, hz, hc, s2⟩
    have hS2 := s2.seq hS
    walk_at "rz"
    intro p1 hp1
    have s3 := s2.new (o := HO.lst [V.int 13, V.int (1000000000 + 1)]) hp1
    have hS3 := s3.seq hS
    have hc3 := hc.same ((Same.refl H2).new (o := HO.lst [V.int 13, V.int (1000000000 + 1)]) hp1)
    walk_at "rz"
    rename_i q0
    obtain ⟨most, hv, hm⟩ := at2 (a := 13) (b := 1000000000 + 1) (k := q0 / 4 % 2) (by omega) (by omega)
    refine ⟨_, _, _, _, rfl, rfl, SqL.of upd_same, hv, ?_⟩
    clear hv s2 hc
    have hm2 : 0 < most ∧ most ≤ 1000000001 := by omega
    clear hm
    walk_at "nf"
    generalize upd H2 p1 (HO.lst [V.int 13, V.int (1000000000 + 1)]) = H3 at s3 hS3 hc3 ⊢
    clear hS2 hp1
    walk_at "rz"
    rename_i now0
    have hnow : 0 ≤ now0 % (100000000000 + 1) ∧ now0 % (100000000000 + 1) ≤ 100000000000 := by omega
    walk_at "nf"
    generalize now0 % (100000000000 + 1) = now at hnow ⊢
    intro D hD
    refine lc_range (lo := 0) (n := 3) (fun i H' => ∃ acc : List Int, H' D = some (.lst (acc.map V.int)) ∧ acc.length = i ∧ (∀ y ∈ acc, 0 ≤ y ∧ y ≤ 1000000000) ∧ Same H3 H') ⟨[], upd_same, rfl, fun y hy => (by cases hy), (Same.refl H3).new hD⟩ ?_ ?_
    · rintro i H' hi ⟨acc, hacc, hal, hall, s⟩
      have hS' := s.seq hS3
      refine ⟨rfl, ?_⟩
      walk_at "rz"
      rename_i y0
      refine ⟨acc.map V.int, hacc, ?_, acc ++ [y0 % most], ?_, ?_, ?_, s.mut hD⟩
      · rw [List.length_map]
        exact Nat.lt_of_le_of_lt (show acc.length ≤ 1000 by omega) (by decide)
      · rw [upd_same, List.map_append]
        rfl
      · rw [List.length_append]
        show acc.length + 1 = i + 1
        omega
      · intro y hy
        rcases List.mem_append.mp hy with hy | hy
        · exact hall y hy
        · have e := List.mem_singleton.mp hy
          rw [e]
          exact ⟨Int.emod_nonneg _ (by omega), by have := Int.emod_lt_of_pos y0 hm2.1; omega⟩
    rintro H4 ⟨acc, hacc, hal, hall, s4⟩
    obtain ⟨t0, t1, t2, rfl⟩ : ∃ a b c, acc = [a, b, c] := match acc, hal with | [a, b, c], _ => ⟨a, b, c, rfl⟩
    have ht0 := hall t0 (by simp)
    have ht1 := hall t1 (by simp)
    have ht2 := hall t2 (by simp)
    have hS4 := s4.seq hS3
    have hc4 := hc3.same s4
    have s5 := s3.trans s4
    clear hall s3 hS3 hc3 s4 hD
    walk_at "rz"
    rename_i e0
    have he0 : 0 ≤ e0 % (1000000000 + 1) ∧ e0 % (1000000000 + 1) ≤ 1000000000 := by omega
    walk_at "nf"
    generalize e0 % (1000000000 + 1) = e1 at he0 ⊢
    refine ⟨fun σ' H' => ∃ e : Int, σ' = [some (.ref a), some (.int z), some (.ref x), some (.int most), some (.int now), some (.ref D), some (.int e), none, none, none, none, none, none, none, none] ∧ Inr e ∧ H' = H4, ?_, ?_⟩
    · walk_at "rz"
      walk_at "ri" <;> intro c1
      · walk_at "rz"
        rfl
      · exact ⟨e1, rfl, ⟨by omega, by omega⟩, rfl⟩
    clear he0
    rintro σ' H' ⟨e, rfl, he, rfl⟩
    walk_at "rz"
    refine ⟨_, _, _, _, rfl, rfl, SqL.of hacc, rfl, ?_⟩
    walk_at "rz"
    refine ⟨fun σ' H2 => ∃ l : Int, σ' = [some (.ref a), some (.int z), some (.ref x), some (.int most), some (.int now), some (.ref D), some (.int e), some (.int l), none, none, none, none, none, none, none] ∧ l = (if z < e then t1 else t2) ∧ H2 = H', ?_, ?_⟩
    · walk_at "rz"
      walk_at "ri" <;> intro c1
      · walk_at "rz"
        refine ⟨_, _, _, _, rfl, rfl, SqL.of hacc, rfl, ?_⟩
        exact ⟨t1, rfl, by rw [if_pos c1], rfl⟩
      · exact ⟨t2, rfl, by rw [if_neg c1], rfl⟩
    rintro σ' H2 ⟨l, rfl, hl, rfl⟩
    have hl2 : 0 ≤ l ∧ l ≤ 1000000000 := by
      rw [hl]
      split <;> omega
    walk_at "rz"
    refine ⟨_, _, _, _, rfl, rfl, SqL.of hacc, rfl, ?_⟩
    walk_at "rz"
    refine ⟨_, _, rfl, hS4, fun p2 hp2 => ?_⟩
    obtain ⟨ms, e2, _, _⟩ := cut_ints ns (some 7) (some 47)
    rw [e2]
    have s6 := s5.new (o := HO.lst (ms.map V.int)) hp2
    have s6' := (Same.refl H2).new (o := HO.lst (ms.map V.int)) hp2
    refine ⟨p2, rfl, ⟨_, SqL.of upd_same⟩, fun D2 hD2 => ?_⟩
    have hp2' : upd H2 p2 (HO.lst (ms.map V.int)) p2 = some (HO.lst (ms.map V.int)) := upd_same
    have hacc' := s6' _ _ hacc
    have hc5 := hc4.same s6'
    have hS5 := s6'.seq hS4
    clear hacc hc4 hS4 s5 s6' hp2
    generalize upd H2 p2 (HO.lst (ms.map V.int)) = H5 at s6 hp2' hacc' hc5 hS5 hD2 ⊢
    refine lc_list (K := K) (a := p2) (xs := ms.map V.int) (fun i H' => ∃ acc : List Addr, H' D2 = some (.lst (acc.map V.ref)) ∧ acc.length ≤ i ∧ SpotsAt H' acc ∧ Same H5 H') ⟨[], upd_same, Nat.le_refl _, fun u hu => (by cases hu), (Same.refl H5).new hD2⟩ (fun i H' _ ⟨_, _, _, _, s⟩ => s.seq (SqL.of hp2')) ?_ ?_
    · rintro i y H' hi ⟨acc, hq, hal2, hT, s⟩
      obtain ⟨c, rfl, _, hlt⟩ := int_at hi
      refine ⟨rfl, ?_⟩
      refine yes_lc ?_
      refine ⟨_, rfl, _, rfl, _, rfl, c, now + t0, l, rfl, by omega, hl2.1, hl2.2, fun t b u H6 b0 b1 s7 hu => ?_⟩
      refine ⟨acc.map V.ref, s7 _ _ hq, ?_, acc ++ [u], ?_, ?_, ?_, (s.trans s7).mut hD2⟩
      · rw [List.length_map]
        exact Nat.lt_of_le_of_lt (show acc.length ≤ 1000 by
          have := cut_ints ns (some 7) (some 47)
          omega) (by decide)
      · rw [upd_same, List.map_append]
        rfl
      · rw [List.length_append]
        show acc.length + 1 ≤ i + 1
        omega
      · have e : ∀ t xs, H6 t = some (.tup xs) → upd H6 D2 (.lst (acc.map V.ref ++ [V.ref u])) t = some (.tup xs) := fun t xs q => by
          rw [upd_ne (ne_of q (s7 _ _ hq) (by intro z; cases z))]
          exact q
        intro v hv
        rcases List.mem_append.mp hv with hv | hv
        · exact (hT.same fun t xs q => e t xs (s7 _ _ q)) v hv
        · have e1 := List.mem_singleton.mp hv
          rw [e1]
          exact ⟨t, b, e _ _ hu, b0, b1⟩
    rintro H6 ⟨acc, hq, _, hT, s7⟩
    have hc6 := hc5.same s7
    have hS6 := s7.seq hS5
    have hacc6 := s7 _ _ hacc'
    have s8 := s6.trans s7
    clear hc5 hS5 hacc' s6 s7 hp2' hD2
    obtain ⟨dx, lf, ts, o1, _, _⟩ := hc6.ob
    walk_at "rz"
    refine ⟨x, z, D2, acc, rfl, hc6, hz, SqL.of hq, hT, fun H7 s9 => ?_⟩
    walk_at "rz"
    have o7 := s9 _ _ o1
    have hc7 := hc6.same s9
    have hacc7 := s9 _ _ hacc6
    have hq7 := s9 _ _ hq
    have hT7 := hT.same fun t xs q => s9 _ _ q
    have hg0 : (Crs.mk z []).Good := ⟨hz, fun f hf => by cases hf⟩
    clear hc6 hacc6 hq hT s9 o1 s8 hS6
    refine ⟨x, dx, _, rfl, o7, cf_no _ _ (by decide +kernel) (by decide +kernel), _, rfl, _, rfl, _, _, _, _, rfl, rfl, SqL.of hacc7, rfl, _, rfl, _, _, _, _, rfl, rfl, SqL.of hacc7, rfl, _, rfl, _, _, _, _, rfl, rfl, SqL.of hacc7, rfl, _, rfl, ?_⟩
    refine ⟨x, _, now, t0, t1, t2, e, rfl, hc7, hg0, Nat.zero_le _, fun H8 hc8 kp => ?_⟩
    have hcT : (Crs.mk z []).tell now t0 t1 t2 e = ⟨z, [⟨now + t0, z, e, l⟩]⟩ := by
      rw [hl]
      rfl
    rw [hcT] at hc8
    have hq8 := hc7.list kp (SqL.of (K := K) hq7)
    have hT8 := hT7.same fun t xs q => hc7.tup kp q
    have hg8 : (Crs.mk z [⟨now + t0, z, e, l⟩]).Good := ⟨hz, fun f hf => by
      have e := List.mem_singleton.mp hf
      rw [e]
      exact ⟨hz, he, ⟨hl2.1, Int.le_trans hl2.2 (by decide)⟩⟩⟩
    clear hc7 hacc7 hq7 hT7 kp o7 hg0
    obtain ⟨dx, lf, ts, o8, _, _⟩ := hc8.ob
    walk_at "rz"
    refine for_list (K := K) (a := D2) (xs := acc.map V.ref) (fun i σ' H' => ∃ v10 v11 v12, σ' = [some (.ref a), some (.int z), some (.ref x), some (.int most), some (.int now), some (.ref D), some (.int e), some (.int l), some (.int (now + t0)), some (.ref D2), v10, v11, v12, none, none] ∧ H' = H8)
      ⟨_, _, _, rfl, rfl⟩ (fun i σ' H' _ ⟨_, _, _, _, q⟩ => by rw [q]; exact hq8) ?_ ?_
    · rintro i y σ' H' hi ⟨v10, v11, v12, rfl, rfl⟩
      obtain ⟨u, rfl, hu, _⟩ := ref_at hi
      obtain ⟨t, b, ht, b0, b1⟩ := hT8 u (List.mem_of_getElem? hu)
      have hfit : Fits z e l b := ⟨hz.1, hz.2, he.1, he.2, hl2.1, Int.le_trans hl2.2 (by decide), b0, by omega⟩
      refine ⟨u, _, rfl, SqT.of ht, rfl, ?_⟩
      walk_at "rds"
      refine ⟨x, dx, _, rfl, o8, cf_no _ _ (by decide +kernel) (by decide +kernel), _, rfl, _, rfl, x, _, t, b, rfl, hc8, hg8, b0, by omega, ?_⟩
      walk_at "rds"
      refine ⟨one_pos, ?_⟩
      walk_at "rds"
      refine ⟨x, dx, _, rfl, o8, cf_no _ _ (by decide +kernel) (by decide +kernel), _, rfl, _, rfl, rfl, rfl, x, _, t, b, rfl, hc8, hg8, b0, by omega, ?_⟩
      walk_at "rds"
      refine ⟨one_pos, ?_⟩
      walk_at "rds"
      rfl
    rintro σ' H' ⟨v10, v11, v12, rfl, rfl⟩
    refine ⟨_, rfl, x, dx, _, rfl, o8, cf_no _ _ (by decide +kernel) (by decide +kernel), _, rfl, _, rfl, _, _, rfl, rfl, x, _, _, 1, rfl, hc8, hg8, by decide, by decide, ?_⟩
    walk_at "rds"
    have q : Crs.pos ⟨z, [⟨now + t0, z, e, l⟩]⟩ (now + t0 + l) 1 = e := by
      rw [one_pos, show now + t0 + l - (now + t0) * 1 = l by omega, stand_done hl2.1]
    refine ⟨q, ?_⟩
    walk_at "rds"
    refine ⟨x, dx, _, rfl, o8, cf_no _ _ (by decide +kernel) (by decide +kernel), x, _, rfl, hc8, fun H9 s9 => ?_⟩
    refine ⟨_, rfl, _, _, rfl, rfl, _, rfl, iteT ?_⟩
    refine ⟨_, rfl, x, dx, _, rfl, s9 _ _ o8, cf_no _ _ (by decide +kernel) (by decide +kernel), x, _, rfl, hc8.same s9, fun H10 s10 => ?_⟩
    exact ⟨_, rfl, _, rfl, _, _, rfl, rfl, _, _, rfl, rfl, k _⟩
theorem law_facts {fa : Addr} (T : Txt K mg) (hfa : mg "law" = some (.ref fa)) :
    ∃ fd : FuncData, (∀ (s : Shared) (v : Value), BindsTo s fd ⟨[v], []⟩ [("_law_script", v)]) ∧ ∀ base : Heap, K.In base → base.Ns mainGlobals mg → FnOk P w K mg base CX0 6 fa fd ["_law_script"] (spLaw K) := by
  have e := hfa.symm.trans (glo_law T)
  cases e
  obtain ⟨fd, _, F⟩ := ok_law (P := P) (w := w) (base := default) T
  refine ⟨fd, fun s v => FunD.bindsA (ps := ["_law_script"]) F (fun _ _ _ _ _ _ us hl => match us, hl with | [_], _ => rfl) s [v] rfl, fun base _ _ => ?_⟩
  obtain ⟨fd', G, F'⟩ := ok_law (P := P) (w := w) (base := base) T
  have q : fd' = fd := F'.fd_eq F
  rw [← q]
  exact G


end

abbrev R : PySem.W.OpenRow := PySem.W.OpenLaw.row PySem.Challenge.rw_lampcues_k04_one_fade
abbrev hk : PySem.W.Hook := He.hookD 6 fa fn
def ob (s : PySem.W.SharedT) : He.AlD := He.obsDG 6 fa fn (HandSHeadRun.getT s)
theorem ob_eq (s : PySem.W.SharedT) : ob s = hk.obs s.abs := He.obsDG_eq (HandSHeadRun.getT_eq s)
def loose0 : List PySem.Str := ["stand", "Course", "_law_cell_at", "_law_whole", "_law_gone", "_law_spot", "_law_alike", "_law_bare"]
def loose : List PySem.Str := loose0
theorem run (w : World) : HandSHeadRun.RunEq R (PySem.W.view R.prog [10]) hk ob 4000 loose w := by
  intro os
  kernel_rfl
end G94
open PySem PySem.W PySem.Calls PyProof.Rows
theorem PySem.Challenge.cw_lampcues_k04_one_fade_holds : PySem.Challenge.rw_lampcues_k04_one_fade.Holds := by
  w_on; o_law
  refine HandSHeadRun.head_any (r := OpenLaw.row PySem.Challenge.rw_lampcues_k04_one_fade) (q := view (OpenLaw.row PySem.Challenge.rw_lampcues_k04_one_fade).prog [10]) (H := G94.hk) (ob := G94.ob) (M := 4000) (loose := G94.loose) (d := HandSHeadRun.topDef (OpenLaw.row PySem.Challenge.rw_lampcues_k04_one_fade).prog 10) (kwd := []) G94.ob_eq
    (by kernel_rfl) (fun s => by kernel_rfl) G94.run (by kernel_rfl) (by kernel_rfl) (by kernel_rfl) (by rfl) (by first | assumption | decide +kernel) (by decide +kernel) ⟨rfl, rfl, rfl, rfl, rfl, by decide +kernel⟩ ?hw ?hc
  case hw => w_witness2
  case hc =>
    refine L2.walk_ofEB (l := PySem.Challenge.rw_lampcues_k04_one_fade) (n := 63) (k := 6) (x := "_law_script") (CX := L2.CX0) rfl (by decide) (by kernel_rfl) ⟨rfl, by decide, by decide⟩ ?F (fun _ _ _ _ z => z)
    intro w mg fa h Y G hmg0
    obtain ⟨K, KX, c⟩ := Y
    have hmg : mg ("law" : PySem.Str) = some (.ref fa) := by
      have e : (HandSHeadRun.topDef (OpenLaw.row PySem.Challenge.rw_lampcues_k04_one_fade).prog 10).name = ("law" : PySem.Str) := by kernel_rfl
      rw [← e]
      exact hmg0
    obtain ⟨fd, hb, hF⟩ := G94.law_facts (P := (PySem.Challenge.rw_lampcues_k04_one_fade).prog) (w := w) ⟨c, h, KX, G⟩ hmg
    exact ⟨K, fd, G94.spLaw K, KX, hb, fun H a ns hl hb hH hS => ⟨a, ns, rfl, hS, hl, hb, hH, fun _ => rfl⟩, hF⟩
