import PyProof.Rows.All
import Wide.All
import OpenK.AllK
import Wide.FinOn
import KE.KStateDown
import HandS.ForMost
import HandS.Exc
import HandS.TryOnly
import HandS.ExcOwn
import HandS.WordsExc
import HandS.Defaults
import HandS.Wide
import HandS.IsInst
import HandS.EndBits
import HandS.TupLe
import HandS.Rev
import HandS.Codes
import HandS.MakeKw
import HandS.StrMore
import HandS.Head0
import HandS.Head1
import HandS.Head2
import HandS.HeadEnd
import HandS.HeadHook1
import HandS.HeadHook2
import PySem.Challenge.RW_lampcues_k21_whole_numbers_read
set_option Elab.async false
set_option linter.all false
set_option maxRecDepth 100000
set_option maxHeartbeats 4000000
namespace L2
open PySem PySem.Spec PyProof.Rows
/-! ### own rules, own words -/
/-- a law's end by facts, with the script's bits and the only tracked thing told -/
theorem walk_ofEB {l : PySem.W.OpenLaw} {n k : Nat} {q : Program} {loose : List Str} {XP : (Str → Option Value) → Heap → Prop} {YP : World → Heap → Prop} {d : DefRec} {CX : CXT} {x : Str}
    (hn : l.most = some n) (hn2 : n ≤ sizeLine) (hdf : d.params.defaults = []) (hr : Room k callerA)
    (F : ∀ (w : World) (mg : Str → Option Value) (fa : Addr) (h : Heap), YP w h → h.Ns mainGlobals mg → mg d.name = some (.ref fa) →
      ∃ (K : PySem.W.Frag) (fd : FuncData) (sp : Sp), K.In h ∧ (∀ (s : Shared) (u : Value), BindsTo s fd ⟨[u], []⟩ [(x, u)]) ∧
        (∀ (H : Hp) (a : Addr) (ns : List Int), ns.length ≤ n → (∀ z ∈ ns, Builtin.Int.intBits z ≤ 1048576) → Only H → SqL K H a (ns.map V.int) → sp [.ref a] H (fun v _ => v = .bl true) fun _ _ _ => False) ∧
        ∀ base : Heap, K.In base → base.Ns mainGlobals mg → FnOk l.prog w K mg base CX k fa fd [x] sp)
    (hCX : ∀ (H : Hp) (s : Shared) (e : Value) (s' : Shared), CX [] H s (fun _ _ _ => False) e s' → False) :
    PySem.W.WalkO q loose XP YP l.row.toRowW d [] (fun f vs => PySem.call f vs) := by
  refine Att.attach_callB hn hdf fun w s₀ s₁ mg mb fa o pm cd doc a vs ns G Y ho hd hcd hmg hobj hints hlen hbits hg => ?_
  obtain ⟨K, fd, sp, KX, hb, hsp, hF⟩ := F w mg fa _ Y G.T.g hmg
  exact law_call KX G.T.g G.T.b G.T.builtins G.T.nolimit hg hobj hints (Nat.le_trans hlen hn2) hr hF hb (fun H hO hS => hsp H a ns hlen hbits hO hS) fun H e s' => hCX H s₁ e s'
section
variable {X : Cx}
/-- a written power -/
theorem pe_powC {i j v : Int} {a b : Nat} {p1 p2 pos : Pos} (e : i ^ j.toNat = v) (h : 0 ≤ j ∧ j ≤ 1000000 ∧ i.natAbs < 2 ^ 64) : PE X (.BinOp (.Constant (.int i) a p1) .Pow (.Constant (.int j) b p2) pos) (tC (.int v)) := by
  subst e
  refine ⟨fun pins s σ H Q I q => ?_⟩
  exact (pe_op (X := X) op_pow pe_int pe_int).run pins s σ H Q I ⟨i, j, rfl, rfl, h, q⟩
/-- a written negative number -/
theorem pe_negC {i : Int} {a : Nat} {p1 pos : Pos} : PE X (.UnaryOp .USub (.Constant (.int i) a p1) pos) (tC (.int (-i))) := by
  refine ⟨fun pins s σ H Q I q => ?_⟩
  exact (pe_un (X := X) un_neg pe_int).run pins s σ H Q I ⟨i, rfl, q⟩
end
theorem iteD {c A B : Prop} [Decidable c] (h1 : c → A) (h2 : ¬ c → B) : if decide c = true then A else B := by
  by_cases h : c
  · rw [if_pos (decide_eq_true h)]
    exact h1 h
  · rw [if_neg (by rw [decide_eq_false h]; exact Bool.false_ne_true)]
    exact h2 h
theorem iteND {c A B : Prop} [Decidable c] (h1 : ¬ c → A) (h2 : c → B) : if (!decide c) = true then A else B := by
  by_cases h : c
  · rw [decide_eq_true h]
    exact iteF (h2 h)
  · rw [decide_eq_false h]
    exact iteT (h1 h)
theorem iteV {a b : Int} {A B : Prop} (h1 : a = b → A) (h2 : a ≠ b → B) : if decide (V.int a = V.int b) = true then A else B :=
  iteD (fun e => h1 (V.int.inj e)) fun e => h2 fun q => e (congrArg V.int q)
theorem iteNV {a b : Int} {A B : Prop} (h1 : a ≠ b → A) (h2 : a = b → B) : if (!decide (V.int a = V.int b)) = true then A else B :=
  iteND (fun e => h1 fun q => e (congrArg V.int q)) fun e => h2 (V.int.inj e)
theorem iteB {b : Bool} {A B : Prop} (h1 : b = true → A) (h2 : b = false → B) : if b = true then A else B := by
  cases b with
  | true => exact iteT (h1 rfl)
  | false => exact iteF (h2 rfl)
theorem iteDT {c A B : Prop} [Decidable c] (h : c) (h1 : A) : if decide c = true then A else B := iteD (fun _ => h1) fun q => absurd h q
theorem iteDF {c A B : Prop} [Decidable c] (h : ¬ c) (h1 : B) : if decide c = true then A else B := iteD (fun q => absurd q h) fun _ => h1
theorem iteVT {a b : Int} {A B : Prop} (h : a = b) (h1 : A) : if decide (V.int a = V.int b) = true then A else B := iteV (fun _ => h1) fun q => absurd h q
theorem iteVF {a b : Int} {A B : Prop} (h : a ≠ b) (h1 : B) : if decide (V.int a = V.int b) = true then A else B := iteV (fun q => absurd q h) fun _ => h1
theorem iteNVF {a b : Int} {A B : Prop} (h : a = b) (h1 : B) : if (!decide (V.int a = V.int b)) = true then A else B := iteNV (fun q => absurd h q) fun _ => h1
theorem yes_lc {σ : St} {H : Hp} {A B : Hp → Prop} (h : A H) : tYes σ H (fun b H3 => if b = true then A H3 else B H3) := by
  show if true = true then A H else B H
  rw [if_pos rfl]
  exact h
theorem qT {Q : VK} {H : Hp} {c : Prop} [Decidable c] (h : c) (k : Q (.bl true) H) : Q (.bl (decide c)) H := by
  rw [decide_eq_true h]
  exact k
theorem qF {Q : VK} {H : Hp} {c : Prop} [Decidable c] (h : ¬ c) (k : Q (.bl false) H) : Q (.bl (decide c)) H := by
  rw [decide_eq_false h]
  exact k
theorem iteS {a b : List Nat} {z : Str} {A B : Prop} (e : z = SX.S b) (h1 : a = b → A) (h2 : a ≠ b → B) : if decide (V.str (SX.S a) = V.str z) = true then A else B := by
  subst e
  exact iteD (fun q => h1 (SX.S_inj (V.str.inj q))) fun q => h2 fun r => q (congrArg (fun l => V.str (SX.S l)) r)
theorem iteNSt {a b : List Nat} {z : Str} {A B : Prop} (e : z = SX.S b) (h1 : a ≠ b → A) (h2 : a = b → B) : if (!decide (V.str (SX.S a) = V.str z)) = true then A else B := by
  subst e
  exact iteND (fun q => h1 fun r => q (congrArg (fun l => V.str (SX.S l)) r)) fun q => h2 (SX.S_inj (V.str.inj q))
theorem cut_ints (ns : List Int) (lo hi : Option Int) : ∃ ms : List Int, cutV (ns.map V.int) lo hi = ms.map V.int ∧ ms.length ≤ ns.length ∧ ∀ z ∈ ms, z ∈ ns := by
  refine ⟨(ns.drop (HT.sIx (ns.map V.int).length 0 lo)).take (HT.sIx (ns.map V.int).length (ns.map V.int).length hi - HT.sIx (ns.map V.int).length 0 lo), ?_, ?_, ?_⟩
  · unfold cutV
    rw [List.map_take, List.map_drop]
  · rw [List.length_take, List.length_drop]
    omega
  · intro z hz
    exact List.mem_of_mem_drop (List.mem_of_mem_take hz)
theorem int_at {ns : List Int} {i : Nat} {y : V} (h : (ns.map V.int)[i]? = some y) : ∃ z, y = V.int z ∧ ns[i]? = some z ∧ i < ns.length := by
  rw [List.getElem?_map] at h
  cases e : ns[i]? with
  | none =>
    rw [e] at h
    cases h
  | some z =>
    rw [e] at h
    exact ⟨z, (Option.some.inj h).symm, rfl, (List.getElem?_eq_some_iff.mp e).1⟩
theorem atI_lt {xs : List V} {k : Int} (h0 : 0 ≤ k) (h1 : k < xs.length) : ∃ v, atI xs k = some v ∧ xs[k.toNat]? = some v := by
  have hl : k.toNat < xs.length := by omega
  refine ⟨xs[k.toNat], ?_, List.getElem?_eq_getElem hl⟩
  obtain ⟨n, rfl⟩ : ∃ n : Nat, k = n := ⟨k.toNat, by omega⟩
  exact atI_nat (List.getElem?_eq_getElem hl)
theorem at2 {a b k : Int} (h0 : 0 ≤ k) (h1 : k < 2) : ∃ v, atI [V.int a, V.int b] k = some (V.int v) ∧ ((k = 0 ∧ v = a) ∨ (k = 1 ∧ v = b)) := by
  rcases (by omega : k = 0 ∨ k = 1) with rfl | rfl
  · exact ⟨a, rfl, .inl ⟨rfl, rfl⟩⟩
  · exact ⟨b, rfl, .inr ⟨rfl, rfl⟩⟩
theorem at3 {a b c k : Int} (h0 : 0 ≤ k) (h1 : k < 3) : ∃ v, atI [V.int a, V.int b, V.int c] k = some (V.int v) ∧ ((k = 0 ∧ v = a) ∨ (k = 1 ∧ v = b) ∨ (k = 2 ∧ v = c)) := by
  rcases (by omega : k = 0 ∨ k = 1 ∨ k = 2) with rfl | rfl | rfl
  · exact ⟨a, rfl, .inl ⟨rfl, rfl⟩⟩
  · exact ⟨b, rfl, .inr (.inl ⟨rfl, rfl⟩)⟩
  · exact ⟨c, rfl, .inr (.inr ⟨rfl, rfl⟩)⟩
/-- a call that writes all parameters, the last ones by name -/
theorem kb_all {K : PySem.W.Frag} {x qual : Str} {params : Arguments} {body : List Stmt} {scope : Scope} {dvs : List V} {kws : List (Str × V)} {f : Addr} {fd : FuncData} {ps : List Str} (F : FunD K x qual params body scope dvs kws f fd) (n : Nat) (ks : List Str) (hd : dvs ≠ [])
    (h : ∀ (T : Addr) (kV doc pm : Value) (an : Option Addr) (cdv ct : Value) (us its ws : List Value), us.length = n → its.length = dvs.length → ws.length = ks.length →
      ∃ k, bindArgs (PySem.W.fnOf x qual params body scope (.ref T) kV doc pm an cdv ct) ⟨us, ks.zip ws⟩ = seqItems? (.ref T) >>= k ∧ k (some its.toArray) = pure (ps.zip (us ++ ws))) : KBn K fd ps n ks (fun us ws => us ++ ws) (fun vs zs => vs ++ zs) := by
  obtain ⟨oc, od, dV, kV, doc, pm, an, cdv, ct, osl, rfl, lk, hcd, hD, _⟩ := F.ex
  rcases hD with ⟨e, _⟩ | ⟨_, T, o, its, m, rfl, lT, oT, rT⟩
  · exact absurd e hd
  · refine ⟨fun s us ws X h1 h2 => ?_, fun r1 r2 => r1.append r2⟩
    obtain ⟨k, e1, e2⟩ := h T kV doc pm an cdv ct us its ws h1 rT.length.symm h2
    refine BindsTo.of_looks fun M => ?_
    rw [e1]
    exact looks_items X lT oT (.of_pure e2)
theorem FunD.fd_eq {K : PySem.W.Frag} {x qual : Str} {params : Arguments} {body : List Stmt} {scope : Scope} {dvs : List V} {kws : List (Str × V)} {f : Addr} {fd fd' : FuncData} (F : FunD K x qual params body scope dvs kws f fd) (F' : FunD K x qual params body scope dvs kws f fd') : fd = fd' := by
  obtain ⟨_, _, _, _, _, _, _, _, _, _, _, l, _⟩ := F.ex
  obtain ⟨_, _, _, _, _, _, _, _, _, _, _, l', _⟩ := F'.ex
  rw [l] at l'
  simp only [Option.some.injEq, Obj.mk.injEq, Data.func.injEq] at l'
  exact l'.2.2.1
theorem at4 {a b c d k : Int} (h0 : 0 ≤ k) (h1 : k < 4) : ∃ v, atI ([a, b, c, d].map V.int) k = some (V.int v) := by
  rcases (by omega : k = 0 ∨ k = 1 ∨ k = 2 ∨ k = 3) with rfl | rfl | rfl | rfl
  · exact ⟨a, rfl⟩
  · exact ⟨b, rfl⟩
  · exact ⟨c, rfl⟩
  · exact ⟨d, rfl⟩
theorem ints_last {es : List Int} {v : Int} (h : es.getLast? = some v) : atI (es.map V.int) (-1) = some (V.int v) := by
  obtain ⟨r, e⟩ := List.getLast?_eq_some_iff.mp h
  rw [e, List.map_append]
  exact atI_last _ _
/-- a loop over the signs of a text -/
theorem for_text {l : List Nat} {g : TG} {tb : TS} {D : Ends} {σ : St} {H : Hp} (Pv : Nat → St → Hp → Prop) (h0 : Pv 0 σ H)
    (hs : ∀ (i : Nat) (c : Nat) (σ : St) (H : Hp), l[i]? = some c → Pv i σ H → g (.str ⟨#[c]⟩) σ H (fun σ2 H2 => tb { D with nx := Pv (i + 1), ct := Pv (i + 1), bk := D.nx } σ2 H2))
    (hd : ∀ σ H, Pv l.length σ H → D.nx σ H) :
    ∃ W : Nat → Nat → St → Hp → Prop, (∃ m, W 0 m σ H) ∧ ∀ i m σ H, W i m σ H → ((Its (SX.S l)).stop i H ∧ D.nx σ H) ∨
      ((Its (SX.S l)).go i H ∧ ∃ N : St → Hp → Prop, (∀ σ' H', N σ' H' → ∃ m', m' < m ∧ W (i + 1) m' σ' H') ∧ ∀ v H', (Its (SX.S l)).yld i H v H' → g v σ H' fun σ2 H2 => tb { D with nx := N, ct := N, bk := D.nx } σ2 H2) := by
  refine ⟨fun i m σ H => m = l.length - i ∧ i ≤ l.length ∧ Pv i σ H, ⟨_, rfl, Nat.zero_le _, h0⟩, ?_⟩
  intro i m σ1 H1 hw
  obtain ⟨em, hi, p⟩ := hw
  have es : (SX.S l).cps.size = l.length := by simp
  rcases Nat.lt_or_ge i l.length with hlt | hge
  · right
    refine ⟨(by show i < (SX.S l).cps.size; omega), Pv (i + 1), fun σ' H' p' => ⟨l.length - (i + 1), by omega, rfl, by omega, p'⟩, ?_⟩
    intro v H' hy
    obtain ⟨e, c, hc, ev⟩ := hy
    rw [e, ev]
    refine hs i c σ1 H1 ?_ p
    have h2 : (SX.S l).cps[i]? = l[i]? := by simp
    rw [← h2]
    exact hc
  · left
    refine ⟨(by show (SX.S l).cps.size ≤ i; omega), hd σ1 H1 ?_⟩
    have e : i = l.length := by omega
    rw [← e]
    exact p
theorem atI_head {α : Type} (c : α) (r : List α) : atI (c :: r) 0 = some c := by
  show atI (c :: r) ((0 : Nat) : Int) = some c
  exact atI_nat rfl
theorem small_size {n : Nat} (h : n ≤ 100000) : n ≤ sizeLine := Nat.le_trans h (by decide)
theorem Same.new {H H' : Hp} {p : Addr} {o : HO} (e : Same H H') (h : H' p = none) : Same H (upd H' p o) := fun a u q => by
  rw [upd_ne (ne_of_none (e a u q) h)]
  exact e a u q
theorem Same.mut {H H' : Hp} {p : Addr} {o : HO} (e : Same H H') (h : H p = none) : Same H (upd H' p o) := fun a u q => by
  rw [upd_ne (ne_of_none q h)]
  exact e a u q
/-- o.m(e, .., k = v, ..) -/
def tMethN (C : Addr) (m : Str) (n j : Nat) (sp : Sp) (gV : List V → List V → List V) (E : XK) (ta : TE) (t tk : TA) : TE := fun σ H Q => ta σ H fun x H1 => ∃ a dx fs, x = .ref a ∧ H1 a = some (.ins C dx fs) ∧ fs.lookup m = none ∧
  t σ H1 fun vs H2 => tk σ H2 fun zs H3 => vs.length = n ∧ zs.length = j ∧ sp (gV (x :: vs) zs) H3 Q E
theorem pe_methN {X : Cx} {CX : CXT} {k n : Nat} {f C : Addr} {fd : FuncData} {ps ks : List Str} {sp : Sp} {E : XK} {m : Str} {o e : Expr} {es : List Expr} {kws : List Keyword} {apos pos : Pos} {ta : TE} {t tk : TA} {g : List Value → List Value → List Value} {gV : List V → List V → List V} {pl : Sem Bool}
    (he : PE X o ta) (c : Cls X.K C) (hm : Meth X.K C m f) (F : FnOk X.prog X.w X.K X.mg X.base CX k f fd ps sp) (hr : Room k X.A) (hb : KBn X.K fd ps (n + 1) ks g gV) (hx : Passes CX X E) (ha : PA X (e :: es) t) (hkw : PK X kws tk)
    (hall : (backToKw pos (keywordEach kws X.env)).all (·.1.isSome) = true := by rfl)
    (hks : (backToKw pos (keywordEach kws X.env)).filterMap (·.1) = ks := by rfl)
    (hst : starEach (e :: es) X.env = (false, eval e X.env) :: starEach es X.env := by rfl)
    (hpl : ((backTo pos (starEach (e :: es) X.env)).any (·.1) || (backToKw pos (keywordEach kws X.env)).any (·.1.isNone)) = false := by rfl)
    (ht : eval (.Call (.Attribute o m apos) (e :: es) kws pos) X.env = (do
      let ov ← eval o X.env
      standAt apos.atName
      let (f, first) ← holding [ov] (getMethod ov m pl)
      callWith pos f first (backTo pos (starEach (e :: es) X.env)) (backToKw pos (keywordEach kws X.env))) := by rfl) :
    PE X (.Call (.Attribute o m apos) (e :: es) kws pos) (tMethN C m n ks.length sp gV E ta t tk) := by
  constructor
  intro pins s σ H Q I hh
  apply PySem.W.methodCall_KW (pl := pl) (he := ht)
  apply thn (he.run pins s σ H _ I hh)
  rintro u s1 ⟨x, H1, I1, rx, a, dx, fs, rfl, ea, l, q⟩
  obtain rfl : u = Value.ref a := rx
  apply getmeth_ok I1 ea c hm l
  apply PySem.W.callWith_KW (first := [.ref a]) (h₀ := X.base) I.ok.mod.kin hm.kp hall (hplain := hpl) (he := hst)
  apply thn (ha.run pos pins s1 σ H1 _ I1 q)
  rintro us s2 ⟨vs, H2, I2, r, q2⟩
  apply thn (hkw.run pos pins s2 σ H2 _ I2 q2)
  rintro ws s3 ⟨zs, H3, I3, rz, l1, l2, q3⟩
  refine ⟨I3.kIn, ?_⟩
  rw [hks]
  exact run_fnN (us := .ref a :: us) (vs := .ref a :: vs) F hr hb hx I3 (.cons rfl r) rz (congrArg Nat.succ l1) l2 q3
end L2
/-! ### the words of a reading: sd a side condition, rd one step, rds as many as go by themselves, ri a test -/
local macro_rules | `(tactic| walk_at "sd") => `(tactic| first
  | omega
  | (show (0 : Int) < _; omega)
  | (show (0 : Int) ≤ _; omega)
  | exact .inl ⟨by omega, by omega⟩
  | exact .inr ⟨by omega, by omega⟩
  | exact ⟨by decide, by decide⟩
  | exact ⟨by omega, by omega⟩
  | exact L2.small_size (Nat.le_of_ble_eq_true rfl)
  | assumption
  | exact ⟨_, by assumption⟩)
local macro_rules | `(tactic| walk_at "rd") => `(tactic| first
  | refine ⟨_, rfl, ?_⟩
  | refine ⟨_, _, rfl, rfl, ?_⟩
  | refine ⟨_, _, rfl, ?_⟩
  | refine ⟨_, _, _, rfl, ?_⟩
  | refine ⟨_, _, _, _, rfl, ?_⟩
  | refine ⟨_, _, _, _, _, rfl, ?_⟩
  | refine ⟨_, _, _, _, _, _, rfl, ?_⟩
  | refine ⟨rfl, ?_⟩
  | refine L2.iteF ?_
  | refine L2.iteT ?_
  | refine And.intro (by walk_at "sd") ?_
  | refine ⟨_, _, _, _, true, rfl, .ty _, .base (.int _), L2.kit_ty (by decide +kernel), ?_⟩
  | refine ⟨_, _, _, _, false, rfl, .ty _, .base (.int _), L2.kit_ty (by decide +kernel), ?_⟩)
local macro_rules | `(tactic| walk_at "rds") => `(tactic| repeat walk_at "rd")
local macro_rules | `(tactic| walk_at "rz") => `(tactic| repeat first
  | walk_at "rd"
  | refine fun (_ : Int) => ?_
  | refine fun (_ : (_ : Int) ≤ _) => ?_
  | refine fun (_ : (_ : Int) < _) => ?_)
local macro_rules | `(tactic| walk_at "ri") => `(tactic| first
  | refine L2.iteV ?_ ?_
  | refine L2.iteNV ?_ ?_
  | refine L2.iteD ?_ ?_
  | refine L2.iteND ?_ ?_
  | refine L2.iteB ?_ ?_)
local macro_rules | `(tactic| walk_at "nf") => `(tactic| try dsimp only [L2.start, List.set_cons_zero, List.set_cons_succ])
local macro_rules | `(tactic| walk_at "g94len") => `(tactic| (intro vs H Q E h; first
  | (obtain ⟨e, _⟩ := h; exact congrArg List.length e)
  | (obtain ⟨_, e, _⟩ := h; exact congrArg List.length e)
  | (obtain ⟨_, _, e, _⟩ := h; exact congrArg List.length e)
  | (obtain ⟨_, _, _, e, _⟩ := h; exact congrArg List.length e)
  | (obtain ⟨_, _, _, _, e, _⟩ := h; exact congrArg List.length e)
  | (obtain ⟨_, _, _, _, _, e, _⟩ := h; exact congrArg List.length e)
  | (obtain ⟨_, _, _, _, _, _, e, _⟩ := h; exact congrArg List.length e)
  | (obtain ⟨_, _, _, _, _, _, _, e, _⟩ := h; exact congrArg List.length e)
  | (obtain ⟨_, _, _, _, _, _, _, _, e, _⟩ := h; exact congrArg List.length e)
  | (obtain ⟨_, _, _, _, _, _, _, _, _, e, _⟩ := h; exact congrArg List.length e)
  | (obtain ⟨_, _, _, _, _, _, _, _, _, _, e, _⟩ := h; exact congrArg List.length e)))
local macro_rules | `(tactic| walk_at "g94tr") => `(tactic| (set_option pp.deepTerms false in set_option pp.deepTerms.threshold 8 in trace_state))
namespace G94
open PySem PySem.Spec PyProof.Rows L2
def top (i : Nat) : Stmt := PySem.Challenge.pw_lampcues_k21_whole_numbers_read.main.body.getD i (.Pass ⟨0, 0, 0, 0⟩)
abbrev s_whole_of : Stmt := top 2
theorem sc_whole_of : FnScope ["word", "most", "sign", "number"] ["word", "most"] (defScope s_whole_of) := ⟨rfl, rfl, rfl, by decide +kernel, rfl, by decide +kernel, by decide +kernel⟩
abbrev s_l_cell_at : Stmt := top 4
theorem sc_l_cell_at : FnScope ["_law_script", "_law_k"] ["_law_script", "_law_k"] (defScope s_l_cell_at) := ⟨rfl, rfl, rfl, by decide +kernel, rfl, by decide +kernel, by decide +kernel⟩
abbrev s_l_whole : Stmt := top 5
theorem sc_l_whole : FnScope ["_law_found"] ["_law_found"] (defScope s_l_whole) := ⟨rfl, rfl, rfl, by decide +kernel, rfl, by decide +kernel, by decide +kernel⟩
abbrev s_l_word : Stmt := top 6
theorem sc_l_word : FnScope ["_law_script", "_law_many", "_law_word_here", "_law_cell", "_law_way", "_law_at"] ["_law_script"] (defScope s_l_word) := ⟨rfl, rfl, rfl, by decide +kernel, rfl, by decide +kernel, by decide +kernel⟩
abbrev s_l_most : Stmt := top 7
theorem sc_l_most : FnScope ["_law_cell"] ["_law_cell"] (defScope s_l_most) := ⟨rfl, rfl, rfl, by decide +kernel, rfl, by decide +kernel, by decide +kernel⟩
abbrev s_l_due : Stmt := top 8
theorem sc_l_due : FnScope ["_law_word_here", "_law_most_here", "_law_number", "_law_sign"] ["_law_word_here", "_law_most_here"] (defScope s_l_due) := ⟨rfl, rfl, rfl, by decide +kernel, rfl, by decide +kernel, by decide +kernel⟩
abbrev s_law : Stmt := top 9
theorem sc_law : FnScope ["_law_script", "_law_word_here", "_law_most_here", "_law_some", "_law_top", "_law_due_here", "_law_found", "_law_size"] ["_law_script"] (defScope s_law) := ⟨rfl, rfl, rfl, by decide +kernel, rfl, by decide +kernel, by decide +kernel⟩
def d_whole_of : He.DefD := ⟨("whole_of", none), "whole_of", "whole_of", defArgs s_whole_of, defBody s_whole_of, defScope s_whole_of, [], []⟩
def d_l_cell_at : He.DefD := ⟨("_law_cell_at", none), "_law_cell_at", "_law_cell_at", defArgs s_l_cell_at, defBody s_l_cell_at, defScope s_l_cell_at, [], []⟩
def d_l_whole : He.DefD := ⟨("_law_whole", none), "_law_whole", "_law_whole", defArgs s_l_whole, defBody s_l_whole, defScope s_l_whole, [], []⟩
def d_l_word : He.DefD := ⟨("_law_word", none), "_law_word", "_law_word", defArgs s_l_word, defBody s_l_word, defScope s_l_word, [], []⟩
def d_l_most : He.DefD := ⟨("_law_most", none), "_law_most", "_law_most", defArgs s_l_most, defBody s_l_most, defScope s_l_most, [], []⟩
def d_l_due : He.DefD := ⟨("_law_due", none), "_law_due", "_law_due", defArgs s_l_due, defBody s_l_due, defScope s_l_due, [], []⟩
def d_law : He.DefD := ⟨("law", none), "law", "law", defArgs s_law, defBody s_law, defScope s_law, [], []⟩
def fn : List He.DefD := [d_whole_of, d_l_cell_at, d_l_whole, d_l_word, d_l_most, d_l_due, d_law]
def fa : List He.Fa := [.glo "whole_of", .glo "_law_cell_at", .glo "_law_whole", .glo "_law_word", .glo "_law_most", .glo "_law_due", .glo "law", .free "len", .free "abs", .free "max", .free "sum", .free "isinstance", .free "int", .free "bool", .free "min", .free "range", .str "FIGURES" "0123456789"]
/-- what the top leaves -/
structure Txt (K : PySem.W.Frag) (mg : Str → Option Value) : Prop where
  c : He.SaysD fa fn K
  hp : ∃ h : Heap, K.In h ∧ h.Ns mainGlobals mg
section
variable {K : PySem.W.Frag} {mg : Str → Option Value}
theorem glo_whole_of (T : Txt K mg) : mg "whole_of" = some (.ref (He.ga K "whole_of")) := by
  obtain ⟨h, X, G⟩ := T.hp
  exact He.glo_ok X G (T.c.fact 0 rfl)
theorem glo__law_cell_at (T : Txt K mg) : mg "_law_cell_at" = some (.ref (He.ga K "_law_cell_at")) := by
  obtain ⟨h, X, G⟩ := T.hp
  exact He.glo_ok X G (T.c.fact 1 rfl)
theorem glo__law_whole (T : Txt K mg) : mg "_law_whole" = some (.ref (He.ga K "_law_whole")) := by
  obtain ⟨h, X, G⟩ := T.hp
  exact He.glo_ok X G (T.c.fact 2 rfl)
theorem glo__law_word (T : Txt K mg) : mg "_law_word" = some (.ref (He.ga K "_law_word")) := by
  obtain ⟨h, X, G⟩ := T.hp
  exact He.glo_ok X G (T.c.fact 3 rfl)
theorem glo__law_most (T : Txt K mg) : mg "_law_most" = some (.ref (He.ga K "_law_most")) := by
  obtain ⟨h, X, G⟩ := T.hp
  exact He.glo_ok X G (T.c.fact 4 rfl)
theorem glo__law_due (T : Txt K mg) : mg "_law_due" = some (.ref (He.ga K "_law_due")) := by
  obtain ⟨h, X, G⟩ := T.hp
  exact He.glo_ok X G (T.c.fact 5 rfl)
theorem glo_law (T : Txt K mg) : mg "law" = some (.ref (He.ga K "law")) := by
  obtain ⟨h, X, G⟩ := T.hp
  exact He.glo_ok X G (T.c.fact 6 rfl)
theorem free_len (T : Txt K mg) : mg "len" = none := by
  obtain ⟨h, X, G⟩ := T.hp
  exact He.free_ok X G (T.c.fact 7 rfl)
theorem free_abs (T : Txt K mg) : mg "abs" = none := by
  obtain ⟨h, X, G⟩ := T.hp
  exact He.free_ok X G (T.c.fact 8 rfl)
theorem free_max (T : Txt K mg) : mg "max" = none := by
  obtain ⟨h, X, G⟩ := T.hp
  exact He.free_ok X G (T.c.fact 9 rfl)
theorem free_sum (T : Txt K mg) : mg "sum" = none := by
  obtain ⟨h, X, G⟩ := T.hp
  exact He.free_ok X G (T.c.fact 10 rfl)
theorem free_isinstance (T : Txt K mg) : mg "isinstance" = none := by
  obtain ⟨h, X, G⟩ := T.hp
  exact He.free_ok X G (T.c.fact 11 rfl)
theorem free_int (T : Txt K mg) : mg "int" = none := by
  obtain ⟨h, X, G⟩ := T.hp
  exact He.free_ok X G (T.c.fact 12 rfl)
theorem free_bool (T : Txt K mg) : mg "bool" = none := by
  obtain ⟨h, X, G⟩ := T.hp
  exact He.free_ok X G (T.c.fact 13 rfl)
theorem free_min (T : Txt K mg) : mg "min" = none := by
  obtain ⟨h, X, G⟩ := T.hp
  exact He.free_ok X G (T.c.fact 14 rfl)
theorem free_range (T : Txt K mg) : mg "range" = none := by
  obtain ⟨h, X, G⟩ := T.hp
  exact He.free_ok X G (T.c.fact 15 rfl)
theorem str_FIGURES (T : Txt K mg) : ∃ t, mg "FIGURES" = some (.str "0123456789" t) := by
  obtain ⟨h, X, G⟩ := T.hp
  exact He.str_ok X G (T.c.fact 16 rfl)
end
section
variable {K : PySem.W.Frag} {mg : Str → Option Value}

end
section
variable {P : Program} {w : World} {K : PySem.W.Frag} {mg : Str → Option Value} {base : Heap}
/-! ### the law's small helpers -/
def spCell (K : PySem.W.Frag) : Sp := fun vs H Q _ => ∃ (a : Addr) (k : Int), vs = [.ref a, .int k] ∧ (∃ ns : List Int, SqL K H a (ns.map V.int)) ∧ 0 ≤ k ∧ ∀ r : Int, Q (.int r) H
theorem ok_l_cell_at (T : Txt K mg) : ∃ fd, FnOk P w K mg base CX0 1 (He.fAd K ("_law_cell_at", none)) fd ["_law_script", "_law_k"] (spCell K) ∧ FunD K "_law_cell_at" "_law_cell_at" (defArgs s_l_cell_at) (defBody s_l_cell_at) (defScope s_l_cell_at) [] [] (He.fAd K ("_law_cell_at", none)) fd := by
  obtain ⟨fd, F⟩ := T.c.def_ 1 (d := d_l_cell_at) rfl
  refine ⟨fd, F.ok sc_l_cell_at (by walk_at "g94len") (fun cdv A outer st H vs Q E hr h => ?_), F⟩
  · obtain ⟨a, i, rfl, ⟨ns, hS⟩, i0, k⟩ := h
    refine ⟨_, PSs.nox (pss_cons (ps_if (pt_cmpR op_lt (pv 1) (pe_callB call_len_seq (by rfl) (free_len T) (by decide +kernel) (pa_cons (pv 0) pa_nil)) (nomark _)) (pss_one (ps_ret (pe_ix ix_list (pv 0) (pv 1) (fun _ _ => rfl)))) pss_nil)
        (pss_one (ps_ret pe_int))), ?_⟩
    walk_at "rds"
    refine ⟨_, _, rfl, .inl hS, ?_⟩
    walk_at "rds"
    walk_at "ri" <;> intro c1
    · obtain ⟨v, hv, hv2⟩ := atI_lt i0 c1
      obtain ⟨z, rfl, _, _⟩ := int_at hv2
      walk_at "rds"
      exact ⟨_, _, _, _, rfl, rfl, hS, hv, k _⟩
    · walk_at "rds"
      exact k _

def spWhole : Sp := fun vs H Q _ => ∃ n : Int, vs = [.int n] ∧ Q (.bl true) H
theorem ok_l_whole (T : Txt K mg) : ∃ fd, FnOk P w K mg base CX0 1 (He.fAd K ("_law_whole", none)) fd ["_law_found"] spWhole ∧ FunD K "_law_whole" "_law_whole" (defArgs s_l_whole) (defBody s_l_whole) (defScope s_l_whole) [] [] (He.fAd K ("_law_whole", none)) fd := by
  obtain ⟨fd, F⟩ := T.c.def_ 2 (d := d_l_whole) rfl
  refine ⟨fd, F.ok sc_l_whole (by walk_at "g94len") (fun cdv A outer st H vs Q E hr h => ?_), F⟩
  · obtain ⟨n, rfl, k⟩ := h
    refine ⟨_, PSs.nox (pss_one (ps_ret (pe_and (pe_callB call_isi (by rfl) (free_isinstance T) (by decide +kernel) (pa_cons (pv 0) (pa_cons (pe_bltn (v := .ty "int") (by rfl) (free_int T) (by decide +kernel) rfl) pa_nil))) (pe_one (pe_not (pe_callB call_isi (by rfl) (free_isinstance T) (by decide +kernel) (pa_cons (pv 0) (pa_cons (pe_bltn (v := .ty "bool") (by rfl) (free_bool T) (by decide +kernel) rfl) pa_nil)))))))), ?_⟩
    walk_at "rds"
    exact k

/-! ### plain -/
def isFig (c : Nat) : Bool := decide (48 ≤ c) && decide (c ≤ 57)
def figs : List Nat := [48, 49, 50, 51, 52, 53, 54, 55, 56, 57]
theorem figs_eq : ("0123456789" : Str) = SX.S figs := by decide +kernel
theorem fig_iff {c : Nat} : c ∈ figs ↔ isFig c = true := by
  simp only [figs, List.mem_cons, List.not_mem_nil, or_false, isFig, Bool.and_eq_true, decide_eq_true_eq]
  omega
/-- the number, sign by sign -/
def dstep (t : Int) (c : Nat) : Int := 10 * t + ((c : Int) - 48)
def val (l : List Nat) : Int := l.foldl dstep 0
theorem val_snoc (l : List Nat) (c : Nat) : val (l ++ [c]) = 10 * val l + ((c : Int) - 48) := by
  unfold val
  rw [List.foldl_append]
  rfl
theorem val_bound : ∀ (n : Nat) (l : List Nat), l.length = n → l.all isFig = true → 0 ≤ val l ∧ val l < 10 ^ n
  | 0, l, h, _ => by
    have e : l = [] := List.length_eq_zero_iff.mp h
    subst e
    exact ⟨Int.le_refl _, by show (0 : Int) < 1; decide⟩
  | n + 1, l, h, ha => by
    rcases List.eq_nil_or_concat l with e | ⟨r, c, e⟩
    · rw [e] at h
      cases h
    · rw [List.concat_eq_append] at e
      subst e
      rw [List.length_append] at h
      rw [List.all_append, Bool.and_eq_true] at ha
      have hr := val_bound n r (by simp only [List.length_cons, List.length_nil] at h; omega) ha.1
      have hc : isFig c = true := by simpa using ha.2
      unfold isFig at hc
      rw [Bool.and_eq_true, decide_eq_true_eq, decide_eq_true_eq] at hc
      rw [val_snoc, Int.pow_succ]
      omega
theorem val_digits {l : List Nat} (h : l.all isFig = true) : val l = ((NumText.digitsVal l : Nat) : Int) := by
  have key : ∀ (l : List Nat) (a : Nat), l.all isFig = true → l.foldl dstep (a : Int) = ((l.foldl (fun acc c => acc * 10 + (c - 48)) a : Nat) : Int) := by
    intro l
    induction l with
    | nil =>
      intro a _
      rfl
    | cons c r ih =>
      intro a h
      rw [List.all_cons, Bool.and_eq_true] at h
      have hc := h.1
      unfold isFig at hc
      rw [Bool.and_eq_true, decide_eq_true_eq, decide_eq_true_eq] at hc
      rw [List.foldl_cons, List.foldl_cons, ← ih _ h.2]
      congr 1
      unfold dstep
      omega
  exact key l 0 h
theorem val_cons (c : Nat) (l : List Nat) : val (c :: l) = ((c : Int) - 48) * 10 ^ l.length + val l := by
  have key : ∀ (l : List Nat) (a : Int), l.foldl dstep a = a * 10 ^ l.length + l.foldl dstep 0 := by
    intro l
    induction l with
    | nil =>
      intro a
      simp
    | cons d r ih =>
      intro a
      rw [List.foldl_cons, List.foldl_cons, ih, ih (dstep 0 d), List.length_cons, Int.pow_succ, ← Int.add_assoc]
      congr 1
      unfold dstep
      rw [Int.mul_zero, Int.zero_add, Int.add_mul]
      congr 1
      rw [Int.mul_comm 10 a, Int.mul_assoc, Int.mul_comm 10 (10 ^ r.length)]
  unfold val
  rw [List.foldl_cons, key l (dstep 0 c)]
  congr 1
  unfold dstep
  rw [Int.mul_zero, Int.zero_add]
theorem pow_ge {n : Nat} (h : 13 ≤ n) : (10000000000000 : Int) ≤ 10 ^ n := by
  obtain ⟨k, rfl⟩ : ∃ k, n = 13 + k := ⟨n - 13, by omega⟩
  rw [Int.pow_add]
  have hk : (1 : Int) ≤ 10 ^ k := by
    have : (0 : Int) < 10 ^ k := Int.pow_pos (by decide)
    omega
  have := Int.mul_le_mul_of_nonneg_left hk (show (0 : Int) ≤ 10 ^ 13 by decide)
  omega
def due (l : List Nat) (most : Int) : Option Int :=
  if l = [] ∨ (l.length > 1 ∧ l.head? = some 48) then none else if l.all isFig = true then (if most < val l then none else some (val l)) else none
def whole (l : List Nat) (most : Int) : Option Int :=
  if l = [] ∨ 13 < l.length then none else if l.all isFig = true then (if l.head? = some 48 ∧ l.length > 1 then none else if most < val l then none else some (val l)) else none
theorem due_eq {l : List Nat} {most : Int} (hm : most ≤ 1000000000000) : due l most = whole l most := by
  by_cases h0 : l = []
  · unfold due whole
    rw [if_pos (Or.inl h0), if_pos (Or.inl h0)]
  by_cases hf : l.all isFig = true
  · by_cases hz : l.length > 1 ∧ l.head? = some 48
    · have A : due l most = none := by
        unfold due
        rw [if_pos (Or.inr hz)]
      have B : whole l most = none := by
        unfold whole
        by_cases h13 : 13 < l.length
        · rw [if_pos (Or.inr h13)]
        · rw [if_neg (fun e => e.elim h0 h13), if_pos hf, if_pos ⟨hz.2, hz.1⟩]
      rw [A, B]
    · have A : due l most = if most < val l then none else some (val l) := by
        unfold due
        rw [if_neg (fun e => e.elim h0 hz), if_pos hf]
      rw [A]
      by_cases h13 : 13 < l.length
      · have B : whole l most = none := by
          unfold whole
          rw [if_pos (Or.inr h13)]
        rw [B, if_pos]
        obtain ⟨c, r, rfl⟩ : ∃ c r, l = c :: r := match l, h0 with | c :: r, _ => ⟨c, r, rfl⟩
        rw [List.length_cons] at h13 hz
        have hc : c ≠ 48 := fun e => hz ⟨by omega, by rw [e]; rfl⟩
        rw [List.all_cons, Bool.and_eq_true] at hf
        have hc2 := hf.1
        unfold isFig at hc2
        rw [Bool.and_eq_true, decide_eq_true_eq, decide_eq_true_eq] at hc2
        have hr := (val_bound _ r rfl hf.2).1
        have hp := pow_ge (n := r.length) (by omega)
        have := Int.mul_le_mul_of_nonneg_right (show (1 : Int) ≤ (c : Int) - 48 by omega) (show (0 : Int) ≤ 10 ^ r.length by omega)
        rw [val_cons]
        omega
      · have B : whole l most = if most < val l then none else some (val l) := by
          unfold whole
          rw [if_neg (fun e => e.elim h0 h13), if_pos hf, if_neg (fun e => hz ⟨e.2, e.1⟩)]
        rw [B]
  · have B : whole l most = none := by
      unfold whole
      rw [if_neg hf]
      split <;> rfl
    have A : due l most = none := by
      unfold due
      rw [if_neg hf]
      split <;> rfl
    rw [A, B]
def optV : Option Int → V
  | none => .non
  | some n => .int n
theorem len_S (l : List Nat) : (SX.S l).length = l.length := SX.S_len l
theorem strV_eq {a b : List Nat} : decide (V.str (SX.S a) = V.str (SX.S b)) = decide (a = b) := by
  by_cases e : a = b
  · subst e
    rw [decide_eq_true rfl, decide_eq_true rfl]
  · rw [decide_eq_false e, decide_eq_false fun q => e (SX.S_inj (V.str.inj q))]
def spWhole2 : Sp := fun vs H Q _ => ∃ (l : List Nat) (m : Int), vs = [.str (SX.S l), .int m] ∧ l.length ≤ 100 ∧ Q (optV (whole l m)) H
theorem ok_whole_of (T : Txt K mg) : ∃ fd, FnOk P w K mg base CX0 1 (He.fAd K ("whole_of", none)) fd ["word", "most"] spWhole2 ∧ FunD K "whole_of" "whole_of" (defArgs s_whole_of) (defBody s_whole_of) (defScope s_whole_of) [] [] (He.fAd K ("whole_of", none)) fd := by
  obtain ⟨fd, F⟩ := T.c.def_ 0 (d := d_whole_of) rfl
  obtain ⟨t_FIGURES, g_FIGURES⟩ := str_FIGURES T
  refine ⟨fd, F.ok sc_whole_of (by walk_at "g94len") (fun cdv A outer st H vs Q E hr h => ?_), F⟩
  · obtain ⟨l, m, rfl, hlen, k⟩ := h
    refine ⟨_, PSs.nox (pss_cons (ps_if (PW.pt (pw_or (pt_cmpR op_eq (pv 0) pe_str (nomark _)) (pw_or1 (pt_cmpR op_gt (pe_callB call_len_str (by rfl) (free_len T) (by decide +kernel) (pa_cons (pv 0) pa_nil)) pe_int (nomark _))))) (pss_one (ps_ret pe_non)) pss_nil)
        (pss_cons (ps_for PassesOwn.never rfl (pi_str (pv 0)) (pg_name (i := 2) sc_whole_of.nd rfl (Or.inl rfl)) (pss_one (ps_if (pt_cmpR op_notIn_sign (pv 2) (pe_glob (v := .str "0123456789") rfl g_FIGURES ⟨_, rfl⟩) rfl) (pss_one (ps_ret pe_non)) pss_nil)))
        (pss_cons (ps_if (PW.pt (pw_and (pt_cmpR op_eq (pe_ix ix_str (pv 0) pe_int (fun _ _ => rfl)) pe_str (nomark _)) (pw_and1 (pt_cmpR op_gt (pe_callB call_len_str (by rfl) (free_len T) (by decide +kernel) (pa_cons (pv 0) pa_nil)) pe_int (nomark _))))) (pss_one (ps_ret pe_non)) pss_nil)
        (pss_cons (ps_set (i := 3) sc_whole_of.nd rfl (Or.inl rfl) (pe_callTy call_int_str (by rfl) (free_int T) (by decide +kernel) (pa_cons (pv 0) pa_nil)))
        (pss_cons (ps_if (pt_cmpR op_gt (pv 3) (pv 1) (nomark _)) (pss_one (ps_ret pe_non)) pss_nil)
        (pss_one (ps_ret (pv 3)))))))), ?_⟩
    have hsz : (SX.S l).length ≤ sizeLine := by
      rw [len_S]
      exact small_size (by omega)
    walk_at "rds"
    refine iteS (b := []) (by decide +kernel) (fun e0 => ?_) (fun e0 => ?_)
    · have q : whole l m = none := by
        unfold whole
        rw [if_pos (Or.inl e0)]
      rw [q] at k
      walk_at "rds"
      exact k
    walk_at "rds"
    walk_at "ri" <;> intro c1
    · have q : whole l m = none := by
        unfold whole
        rw [if_pos (Or.inr (by rw [len_S] at c1; omega))]
      rw [q] at k
      walk_at "rds"
      exact k
    have c1' : ¬ 13 < l.length := by
      rw [len_S] at c1
      omega
    refine ⟨_, rfl, _, rfl, for_text (l := l) (fun i σ' H' => ∃ v, σ' = [some (.str (SX.S l)), some (.int m), v, none] ∧ H' = H ∧ (l.take i).all isFig = true) ⟨_, rfl, rfl, rfl⟩ ?_ ?_⟩
    · rintro i c σ' H' hc ⟨v, rfl, rfl, ha⟩
      refine ⟨_, rfl, c, _, rfl, rfl, _, rfl, ?_⟩
      rw [figs_eq]
      refine iteND (fun hn => ?_) (fun hm => ?_)
      · have q : whole l m = none := by
          unfold whole
          rw [if_neg (fun e => e.elim e0 c1'), if_neg]
          intro hall
          exact hn (fig_iff.mpr (List.all_eq_true.mp hall c (List.mem_of_getElem? hc)))
        rw [q] at k
        exact k
      · refine ⟨_, rfl, rfl, ?_⟩
        rw [List.take_add_one, hc, List.all_append, ha]
        have := fig_iff.mp hm
        simpa using this
    rintro σ' H' ⟨v, rfl, rfl, ha⟩
    rw [List.take_length] at ha
    obtain ⟨c, r, rfl⟩ : ∃ c r, l = c :: r := match l, e0 with | c :: r, _ => ⟨c, r, rfl⟩
    have W0 : whole (c :: r) m = if (c :: r).head? = some 48 ∧ (c :: r).length > 1 then none else if m < val (c :: r) then none else some (val (c :: r)) := by
      unfold whole
      rw [if_neg (fun e => e.elim e0 c1'), if_pos ha]
    rw [W0] at k
    have hint : intText? (SX.S (c :: r)) = some (val (c :: r)) := by
      rw [val_digits ha]
      exact SX.int_S ha e0 (by omega)
    refine ⟨_, rfl, _, 0, c, rfl, rfl, hsz, atI_head _ _, rfl, _, rfl, ?_⟩
    refine iteS (a := [c]) (b := [48]) (by decide +kernel) (fun e1 => ?_) (fun e1 => ?_)
    · walk_at "rds"
      walk_at "ri" <;> intro c2
      · rw [if_pos ⟨by rw [List.head?_cons, (List.cons.inj e1).1], by rw [len_S] at c2; omega⟩] at k
        walk_at "rds"
        exact k
      · rw [if_neg (fun e => c2 (by rw [len_S]; have := e.2; omega))] at k
        walk_at "rds"
        refine ⟨_, _, rfl, hint, ?_, ?_⟩
        · rw [len_S]
          omega
        walk_at "rds"
        walk_at "ri" <;> intro c3
        · rw [if_pos c3] at k
          walk_at "rds"
          exact k
        · rw [if_neg c3] at k
          walk_at "rds"
          exact k
    · rw [if_neg (fun e => e1 (by rw [List.head?_cons] at e; rw [Option.some.inj e.1]))] at k
      walk_at "rds"
      refine ⟨_, _, rfl, hint, ?_, ?_⟩
      · rw [len_S]
        omega
      walk_at "rds"
      walk_at "ri" <;> intro c3
      · rw [if_pos c3] at k
        walk_at "rds"
        exact k
      · rw [if_neg c3] at k
        walk_at "rds"
        exact k
def spDue : Sp := fun vs H Q _ => ∃ (l : List Nat) (m : Int), vs = [.str (SX.S l), .int m] ∧ l.length ≤ 100 ∧ Q (optV (due l m)) H
theorem find_fig {c : Nat} (h : isFig c = true) : Txt.find (SX.S figs) (SX.S [c]) = (c : Int) - 48 := by
  unfold isFig at h
  rw [Bool.and_eq_true, decide_eq_true_eq, decide_eq_true_eq] at h
  rcases (by omega : c = 48 ∨ c = 49 ∨ c = 50 ∨ c = 51 ∨ c = 52 ∨ c = 53 ∨ c = 54 ∨ c = 55 ∨ c = 56 ∨ c = 57) with rfl | rfl | rfl | rfl | rfl | rfl | rfl | rfl | rfl | rfl <;> decide +kernel
theorem ok_l_due (T : Txt K mg) : ∃ fd, FnOk P w K mg base CX0 1 (He.fAd K ("_law_due", none)) fd ["_law_word_here", "_law_most_here"] spDue ∧ FunD K "_law_due" "_law_due" (defArgs s_l_due) (defBody s_l_due) (defScope s_l_due) [] [] (He.fAd K ("_law_due", none)) fd := by
  obtain ⟨fd, F⟩ := T.c.def_ 5 (d := d_l_due) rfl
  refine ⟨fd, F.ok sc_l_due (by walk_at "g94len") (fun cdv A outer st H vs Q E hr h => ?_), F⟩
  · obtain ⟨l, m, rfl, hlen, k⟩ := h
    refine ⟨_, PSs.nox (C8.pss_cut (ps_if (PW.pt (pw_or (pt_cmpR op_eq (pv 0) pe_str (nomark _)) (pw_or1 (PW.pt (pw_and (pt_cmpR op_gt (pe_callB call_len_str (by rfl) (free_len T) (by decide +kernel) (pa_cons (pv 0) pa_nil)) pe_int (nomark _)) (pw_and1 (pt_cmpR op_eq (pe_ix ix_str (pv 0) pe_int (fun _ _ => rfl)) pe_str (nomark _)))))))) (pss_one (ps_ret pe_non)) pss_nil)
        (pss_cons (ps_set (i := 2) sc_l_due.nd rfl (Or.inl rfl) pe_int)
        (pss_cons (ps_for PassesOwn.never rfl (pi_str (pv 0)) (pg_name (i := 3) sc_l_due.nd rfl (Or.inl rfl)) (pss_cons (ps_if (pt_cmpR op_notIn_sign (pv 3) pe_str rfl) (pss_one (ps_ret pe_non)) pss_nil)
        (pss_one (ps_set (i := 2) sc_l_due.nd rfl (Or.inl rfl) (pe_op op_add (pe_op op_mul pe_int (pv 2)) (pe_m1 PySem.F.slot_str_find PySem.F.type_str_find mt_find pe_str (pv 3)))))))
        (pss_cons (ps_if (pt_cmpR op_gt (pv 2) (pv 1) (nomark _)) (pss_one (ps_ret pe_non)) pss_nil)
        (pss_one (ps_ret (pv 2))))))), ?_⟩
    have hsz : (SX.S l).length ≤ sizeLine := by
      rw [len_S]
      exact small_size (by omega)
    refine ⟨fun σ' H' => σ' = [some (.str (SX.S l)), some (.int m), none, none] ∧ H' = H ∧ ¬ (l = [] ∨ (l.length > 1 ∧ l.head? = some 48)), ?_, ?_⟩
    · walk_at "rds"
      refine iteS (b := []) (by decide +kernel) (fun e0 => ?_) (fun e0 => ?_)
      · have q : due l m = none := by
          unfold due
          rw [if_pos (Or.inl e0)]
        rw [q] at k
        walk_at "rds"
        exact k
      walk_at "rds"
      walk_at "ri" <;> intro c1
      · obtain ⟨c, r, rfl⟩ : ∃ c r, l = c :: r := match l, e0 with | c :: r, _ => ⟨c, r, rfl⟩
        rw [len_S] at c1
        refine ⟨_, rfl, _, 0, c, rfl, rfl, hsz, atI_head _ _, rfl, _, rfl, ?_⟩
        refine iteS (a := [c]) (b := [48]) (by decide +kernel) (fun e1 => ?_) (fun e1 => ?_)
        · have q : due (c :: r) m = none := by
            unfold due
            rw [if_pos (Or.inr ⟨by omega, by rw [List.head?_cons, (List.cons.inj e1).1]⟩)]
          rw [q] at k
          walk_at "rds"
          exact k
        · exact ⟨rfl, rfl, fun e => e.elim e0 fun q => e1 (by rw [List.head?_cons] at q; rw [Option.some.inj q.2])⟩
      · rw [len_S] at c1
        exact ⟨rfl, rfl, fun e => e.elim e0 fun q => c1 (by omega)⟩
    rintro σ' H' ⟨rfl, rfl, hn⟩
    have D0 : due l m = if l.all isFig = true then (if m < val l then none else some (val l)) else none := by
      unfold due
      rw [if_neg hn]
    rw [D0] at k
    refine ⟨_, rfl, _, rfl, for_text (l := l) (fun i σ' H2 => ∃ v, σ' = [some (.str (SX.S l)), some (.int m), some (.int (val (l.take i))), v] ∧ H2 = H' ∧ (l.take i).all isFig = true) ⟨_, rfl, rfl, rfl⟩ ?_ ?_⟩
    · rintro i c σ' H2 hc ⟨v, rfl, rfl, ha⟩
      have hb := val_bound _ (l.take i) rfl ha
      refine ⟨_, rfl, c, _, rfl, rfl, _, rfl, ?_⟩
      rw [figs_eq]
      refine iteND (fun hx => ?_) (fun hm => ?_)
      · rw [if_neg (fun hall => hx (fig_iff.mpr (List.all_eq_true.mp hall c (List.mem_of_getElem? hc))))] at k
        exact k
      · have hf := fig_iff.mp hm
        refine ⟨_, rfl, _, _, rfl, rfl, .inl ⟨by decide, by decide⟩, ⟨_, rfl⟩, _, rfl, _, _, rfl, rfl, _, _, rfl, rfl, some (V.str ⟨#[c]⟩), ?_, rfl, ?_⟩
        · rw [show val (l.take (i + 1)) = 10 * val (l.take i) + Txt.find (SX.S figs) (SX.S [c]) by
            rw [List.take_add_one, hc, find_fig hf]
            exact val_snoc _ _]
          rfl
        · rw [List.take_add_one, hc, List.all_append, ha]
          simpa using hf
    rintro σ' H2 ⟨v, rfl, rfl, ha⟩
    rw [List.take_length] at ha ⊢
    rw [if_pos ha] at k
    walk_at "rds"
    walk_at "ri" <;> intro c3
    · rw [if_pos c3] at k
      walk_at "rds"
      exact k
    · rw [if_neg c3] at k
      walk_at "rds"
      exact k
def spMost : Sp := fun vs H Q _ => ∃ c : Int, vs = [.int c] ∧ ∀ (m : Int) (H' : Hp), 0 ≤ m → m ≤ 1000000000000 → Same H H' → Q (.int m) H'
theorem at4b {a b c d k : Int} (h0 : 0 ≤ k) (h1 : k < 4) : ∃ v, atI [V.int a, V.int b, V.int c, V.int d] k = some (V.int v) ∧ (v = a ∨ v = b ∨ v = c ∨ v = d) := by
  rcases (by omega : k = 0 ∨ k = 1 ∨ k = 2 ∨ k = 3) with rfl | rfl | rfl | rfl
  · exact ⟨a, rfl, by simp⟩
  · exact ⟨b, rfl, by simp⟩
  · exact ⟨c, rfl, by simp⟩
  · exact ⟨d, rfl, by simp⟩
theorem ok_l_most (T : Txt K mg) : ∃ fd, FnOk P w K mg base CX0 1 (He.fAd K ("_law_most", none)) fd ["_law_cell"] spMost ∧ FunD K "_law_most" "_law_most" (defArgs s_l_most) (defBody s_l_most) (defScope s_l_most) [] [] (He.fAd K ("_law_most", none)) fd := by
  obtain ⟨fd, F⟩ := T.c.def_ 4 (d := d_l_most) rfl
  refine ⟨fd, F.ok sc_l_most (by walk_at "g94len") (fun cdv A outer st H vs Q E hr h => ?_), F⟩
  · obtain ⟨c, rfl, k⟩ := h
    refine ⟨_, PSs.nox (pss_cons (ps_if (pt_cmpR op_eq (pe_op op_mod (pv 0) pe_int) pe_int (nomark _)) (pss_one (ps_ret (pe_op op_mod (pe_op op_fdiv (pv 0) pe_int) (pe_op op_add (pe_powC (v := 1000000000000) (by rfl) (by decide +kernel)) pe_int)))) pss_nil)
        (pss_one (ps_ret (pe_ix ix_list (pe_lst (pa_cons (pe_powC (v := 1000000000) (by rfl) (by decide +kernel)) (pa_cons (pe_powC (v := 1000000000000) (by rfl) (by decide +kernel)) (pa_cons pe_int (pa_cons pe_int pa_nil))))) (pe_op op_mod (pv 0) pe_int) (fun _ _ => rfl))))), ?_⟩
    walk_at "rds"
    walk_at "ri" <;> intro c1
    · walk_at "rds"
      exact k _ _ (by omega) (by omega) (Same.refl H)
    · walk_at "rds"
      intro p hp
      walk_at "rds"
      obtain ⟨v, hv, hv2⟩ := at4b (a := 1000000000) (b := 1000000000000) (c := 1000) (d := 0) (k := c % 5) (by omega) (by omega)
      refine ⟨_, _, _, _, rfl, rfl, SqL.of upd_same, hv, ?_⟩
      exact k _ _ (by omega) (by omega) ((Same.refl H).new hp)
def spWord (K : PySem.W.Frag) : Sp := fun vs H Q _ => ∃ a : Addr, vs = [.ref a] ∧ (∃ ns : List Int, SqL K H a (ns.map V.int) ∧ ns.length ≤ 63) ∧ ∀ (l : List Nat) (H' : Hp), l.length ≤ 100 → Same H H' → Q (.str (SX.S l)) H'
theorem sign_at {z : Str} {n : Nat} (hz : z.length = n) {k : Int} (h0 : 0 ≤ k) (h1 : k < n) : ∃ c, atI z.cps.toList k = some c := by
  have hl : k.toNat < z.cps.toList.length := by
    have : z.cps.toList.length = n := by
      rw [← hz]
      simp [Str.length]
    omega
  obtain ⟨j, rfl⟩ : ∃ j : Nat, k = j := ⟨k.toNat, by omega⟩
  exact ⟨_, atI_nat (List.getElem?_eq_getElem (by simpa using hl))⟩
theorem ok_l_word (T : Txt K mg) : ∃ fd, FnOk P w K mg base CX0 2 (He.fAd K ("_law_word", none)) fd ["_law_script"] (spWord K) ∧ FunD K "_law_word" "_law_word" (defArgs s_l_word) (defBody s_l_word) (defScope s_l_word) [] [] (He.fAd K ("_law_word", none)) fd := by
  obtain ⟨fd, F⟩ := T.c.def_ 3 (d := d_l_word) rfl
  obtain ⟨fd_l_cell_at, G_l_cell_at, F_l_cell_at⟩ := ok_l_cell_at (P := P) (w := w) (base := base) T
  have kp_l_cell_at := F_l_cell_at.kp
  have b_l_cell_at : Binds K fd_l_cell_at ["_law_script", "_law_k"] [] := FunD.bindsN F_l_cell_at (fun _ _ _ _ _ _ us hl => match us, hl with | [_, _], _ => rfl)
  refine ⟨fd, F.ok sc_l_word (by walk_at "g94len") (fun cdv A outer st H vs Q E hr h => ?_), F⟩
  · obtain ⟨a, rfl, ⟨ns, hS, hns⟩, k⟩ := h
    refine ⟨_, PSs.nox (pss_cons (ps_set (i := 1) sc_l_word.nd rfl (Or.inl rfl) pe_int)
        (C8.pss_cut (ps_if (pt_cmpR op_eq (pe_op op_mod (pe_call G_l_cell_at (hr.mono (by decide)) rfl (glo__law_cell_at T) kp_l_cell_at b_l_cell_at .nil pass0 (pa_cons (pv 0) (pa_cons pe_int pa_nil))) pe_int) pe_int (nomark _)) (pss_one (ps_set (i := 1) sc_l_word.nd rfl (Or.inl rfl) (pe_op op_mod (pe_op op_fdiv (pe_call G_l_cell_at (hr.mono (by decide)) rfl (glo__law_cell_at T) kp_l_cell_at b_l_cell_at .nil pass0 (pa_cons (pv 0) (pa_cons pe_int pa_nil))) pe_int) pe_int))) pss_nil)
        (pss_cons (ps_set (i := 2) sc_l_word.nd rfl (Or.inl rfl) pe_str)
        (pss_cons (ps_for PassesOwn.never rfl (pi_list (pe_slice sl_list (pv 0) (po_some pe_int) (po_some (pe_op op_add pe_int (pv 1))))) (pg_name (i := 3) sc_l_word.nd rfl (Or.inl rfl)) (pss_one (ps_set (i := 2) sc_l_word.nd rfl (Or.inl rfl) (pe_op op_add_str (pv 2) (pe_ix ix_str pe_str (pe_op op_mod (pv 3) pe_int) (fun _ _ => rfl))))))
        (pss_cons (ps_set (i := 4) sc_l_word.nd rfl (Or.inl rfl) (pe_op op_mod (pe_call G_l_cell_at (hr.mono (by decide)) rfl (glo__law_cell_at T) kp_l_cell_at b_l_cell_at .nil pass0 (pa_cons (pv 0) (pa_cons pe_int pa_nil))) pe_int))
        (C8.pss_cut (ps_if (pt_cmpR op_eq (pv 4) pe_int (nomark _)) (pss_one (ps_set (i := 2) sc_l_word.nd rfl (Or.inl rfl) (pe_op op_add_str pe_str (pv 2)))) pss_nil)
        (C8.pss_cut (ps_if (pt_cmpR op_eq (pv 4) pe_int (nomark _)) (pss_cons (ps_set (i := 5) sc_l_word.nd rfl (Or.inl rfl) (pe_op op_mod (pe_op op_fdiv (pe_call G_l_cell_at (hr.mono (by decide)) rfl (glo__law_cell_at T) kp_l_cell_at b_l_cell_at .nil pass0 (pa_cons (pv 0) (pa_cons pe_int pa_nil))) pe_int) (pe_op op_add (pe_callB call_len_str (by rfl) (free_len T) (by decide +kernel) (pa_cons (pv 2) pa_nil)) pe_int)))
        (pss_one (ps_set (i := 2) sc_l_word.nd rfl (Or.inl rfl) (pe_op op_add_str (pe_op op_add_str (pe_slice C8.sl_txt (pv 2) po_none (po_some (pv 5))) (pe_ix ix_str pe_str (pe_op op_mod (pe_call G_l_cell_at (hr.mono (by decide)) rfl (glo__law_cell_at T) kp_l_cell_at b_l_cell_at .nil pass0 (pa_cons (pv 0) (pa_cons pe_int pa_nil))) pe_int) (fun _ _ => rfl))) (pe_slice C8.sl_txt (pv 2) (po_some (pv 5)) po_none))))) pss_nil)
        (pss_one (ps_ret (pv 2)))))))))), ?_⟩
    walk_at "rds"
    refine ⟨fun σ' H' => ∃ m : Int, σ' = [some (.ref a), some (.int m), none, none, none, none] ∧ H' = H, ?_, ?_⟩
    · walk_at "rz"
      walk_at "ri" <;> intro c1
      · walk_at "rz"
        rfl
      · exact ⟨_, rfl, rfl⟩
    rintro σ' H' ⟨m, rfl, rfl⟩
    refine ⟨_, rfl, _, rfl, _, rfl, _, _, rfl, rfl, _, rfl, a, _, rfl, hS, fun p hp => ?_⟩
    obtain ⟨ms, em, hms, _⟩ := cut_ints ns (some 3) (some (3 + m))
    rw [em]
    have s1 := (Same.refl H').new (o := HO.lst (ms.map V.int)) hp
    have hS1 := s1.seq hS
    have hp1 : upd H' p (HO.lst (ms.map V.int)) p = some (HO.lst (ms.map V.int)) := upd_same
    refine ⟨p, rfl, ⟨_, SqL.of upd_same⟩, ?_⟩
    generalize upd H' p (HO.lst (ms.map V.int)) = H1 at s1 hS1 hp1 ⊢
    refine for_list (K := K) (a := p) (xs := ms.map V.int) (fun i σ' H2 => ∃ (l : List Nat) (v : Option V), σ' = [some (.ref a), some (.int m), some (.str (SX.S l)), v, none, none] ∧ l.length ≤ i ∧ H2 = H1) ⟨[], _, rfl, Nat.le_refl _, rfl⟩ (fun i σ' H2 _ ⟨_, _, _, _, q⟩ => by rw [q]; exact SqL.of hp1) ?_ ?_
    · rintro i y σ' H2 hi ⟨l, v, rfl, hl, rfl⟩
      obtain ⟨z, rfl, _, hlt⟩ := int_at hi
      obtain ⟨c, hc⟩ := sign_at (z := "0123456789") (n := 10) (by decide +kernel) (k := z % 10) (by omega) (by omega)
      refine ⟨_, rfl, _, rfl, _, _, rfl, rfl, by show (0 : Int) < 10; decide, _, _, _, rfl, rfl, small_size (by decide +kernel), hc, ?_⟩
      refine ⟨SX.S l, SX.S [c], rfl, rfl, ?_, l ++ [c], some (V.int z), ?_, ?_, rfl⟩
      · rw [len_S, len_S]
        exact small_size (by show l.length + 1 ≤ 100000; omega)
      · rw [SX.S_cat]
        rfl
      · rw [List.length_append]
        show l.length + 1 ≤ i + 1
        omega
    rintro σ' H2 ⟨l, v, rfl, hl, rfl⟩
    rw [List.length_map] at hl
    have hl2 : l.length ≤ 63 := by omega
    walk_at "rz"
    rename_i w0
    walk_at "nf"
    generalize w0 % 4 = way
    refine ⟨fun σ' H' => ∃ l : List Nat, σ' = [some (.ref a), some (.int m), some (.str (SX.S l)), v, some (.int way), none] ∧ l.length ≤ 64 ∧ H' = H2, ?_, ?_⟩
    · walk_at "rz"
      walk_at "ri" <;> intro c1
      · refine ⟨_, rfl, SX.S [48], SX.S l, by decide +kernel, rfl, ?_, [48] ++ l, ?_, ?_, rfl⟩
        · rw [len_S, len_S]
          exact small_size (by show 1 + l.length ≤ 100000; omega)
        · rw [SX.S_cat]
          rfl
        · rw [List.length_append]
          show 1 + l.length ≤ 64
          omega
      · exact ⟨l, rfl, by omega, rfl⟩
    clear hl hl2
    rintro σ' H' ⟨l, rfl, hl, rfl⟩
    have hsz : (SX.S l).length ≤ sizeLine := by
      rw [len_S]
      exact small_size (by omega)
    refine ⟨fun σ' H2 => ∃ (l : List Nat) (u : Option V), σ' = [some (.ref a), some (.int m), some (.str (SX.S l)), v, some (.int way), u] ∧ l.length ≤ 65 ∧ H2 = H', ?_, ?_⟩
    · walk_at "rz"
      walk_at "ri" <;> intro c1
      · walk_at "rds"
        intro x
        have hpos : (0 : Int) < ((SX.S l).length : Int) + 1 := by omega
        walk_at "rds"
        have h0 : 0 ≤ x / 4 % (((SX.S l).length : Int) + 1) := Int.emod_nonneg _ (by omega)
        walk_at "nf"
        generalize x / 4 % (((SX.S l).length : Int) + 1) = at_ at h0 ⊢
        rw [SX.slice_to h0]
        intro y
        obtain ⟨c, hc⟩ := sign_at (z := "-+. _a,x:e") (n := 10) (by decide +kernel) (k := y % 10) (by omega) (by omega)
        refine ⟨_, _, rfl, rfl, by show (0 : Int) < 10; decide, _, _, _, rfl, rfl, small_size (by decide +kernel), hc, _, _, rfl, rfl, ?_, ?_⟩
        · rw [len_S, len_S, List.length_take]
          exact small_size (by show min at_.toNat l.length + 1 ≤ 100000; omega)
        rw [SX.S_cat]
        refine ⟨_, rfl, _, rfl, _, rfl, SX.S l, rfl, hsz, ?_⟩
        rw [SX.slice_from h0]
        refine ⟨_, _, rfl, rfl, ?_, l.take at_.toNat ++ [c] ++ l.drop at_.toNat, some (V.int at_), ?_, ?_, rfl⟩
        · rw [len_S, len_S, List.length_append, List.length_take, List.length_drop]
          exact small_size (by show min at_.toNat l.length + 1 + (l.length - at_.toNat) ≤ 100000; omega)
        · rw [SX.S_cat]
          rfl
        · rw [List.length_append, List.length_append, List.length_take, List.length_drop]
          show min at_.toNat l.length + 1 + (l.length - at_.toNat) ≤ 65
          omega
      · exact ⟨l, _, rfl, by omega, rfl⟩
    rintro σ' H2 ⟨l, u, rfl, hl, rfl⟩
    refine ⟨_, rfl, k l _ (by omega) s1⟩
def spLaw (K : PySem.W.Frag) : Sp := fun vs H Q _ => ∃ (a : Addr) (ns : List Int), vs = [.ref a] ∧ SqL K H a (ns.map V.int) ∧ ns.length ≤ 63 ∧ (∀ z ∈ ns, Builtin.Int.intBits z ≤ 1048576) ∧ Only H ∧ ∀ H', Q (.bl true) H'

def txtV (l : List Nat) : V := .str (SX.S l)
theorem ok_law (T : Txt K mg) : ∃ fd, FnOk P w K mg base CX0 6 (He.fAd K ("law", none)) fd ["_law_script"] (spLaw K) ∧ FunD K "law" "law" (defArgs s_law) (defBody s_law) (defScope s_law) [] [] (He.fAd K ("law", none)) fd := by
  obtain ⟨fd, F⟩ := T.c.def_ 6 (d := d_law) rfl
  obtain ⟨fd_l_word, G_l_word, F_l_word⟩ := ok_l_word (P := P) (w := w) (base := base) T
  have kp_l_word := F_l_word.kp
  have b_l_word : Binds K fd_l_word ["_law_script"] [] := FunD.bindsN F_l_word (fun _ _ _ _ _ _ us hl => match us, hl with | [_], _ => rfl)
  obtain ⟨fd_l_most, G_l_most, F_l_most⟩ := ok_l_most (P := P) (w := w) (base := base) T
  have kp_l_most := F_l_most.kp
  have b_l_most : Binds K fd_l_most ["_law_cell"] [] := FunD.bindsN F_l_most (fun _ _ _ _ _ _ us hl => match us, hl with | [_], _ => rfl)
  obtain ⟨fd_l_cell_at, G_l_cell_at, F_l_cell_at⟩ := ok_l_cell_at (P := P) (w := w) (base := base) T
  have kp_l_cell_at := F_l_cell_at.kp
  have b_l_cell_at : Binds K fd_l_cell_at ["_law_script", "_law_k"] [] := FunD.bindsN F_l_cell_at (fun _ _ _ _ _ _ us hl => match us, hl with | [_, _], _ => rfl)
  obtain ⟨fd_l_due, G_l_due, F_l_due⟩ := ok_l_due (P := P) (w := w) (base := base) T
  have kp_l_due := F_l_due.kp
  have b_l_due : Binds K fd_l_due ["_law_word_here", "_law_most_here"] [] := FunD.bindsN F_l_due (fun _ _ _ _ _ _ us hl => match us, hl with | [_, _], _ => rfl)
  obtain ⟨fd_whole_of, G_whole_of, F_whole_of⟩ := ok_whole_of (P := P) (w := w) (base := base) T
  have kp_whole_of := F_whole_of.kp
  have b_whole_of : Binds K fd_whole_of ["word", "most"] [] := FunD.bindsN F_whole_of (fun _ _ _ _ _ _ us hl => match us, hl with | [_, _], _ => rfl)
  obtain ⟨fd_l_whole, G_l_whole, F_l_whole⟩ := ok_l_whole (P := P) (w := w) (base := base) T
  have kp_l_whole := F_l_whole.kp
  have b_l_whole : Binds K fd_l_whole ["_law_found"] [] := FunD.bindsN F_l_whole (fun _ _ _ _ _ _ us hl => match us, hl with | [_], _ => rfl)
  refine ⟨fd, F.ok sc_law (by walk_at "g94len") (fun cdv A outer st H vs Q E hr h => ?_), F⟩
  · obtain ⟨a, ns, rfl, hS, hlen, hbits, hO, k⟩ := h
    refine ⟨_, PSs.nox (pss_cons (ps_set (i := 1) sc_law.nd rfl (Or.inr rfl) (pe_call G_l_word (hr.mono (by decide)) rfl (glo__law_word T) kp_l_word b_l_word .nil pass0 (pa_cons (pv 0) pa_nil)))
        (pss_cons (ps_set (i := 2) sc_law.nd rfl (Or.inl rfl) (pe_call G_l_most (hr.mono (by decide)) rfl (glo__law_most T) kp_l_most b_l_most .nil pass0 (pa_cons (pe_op op_fdiv (pe_call G_l_cell_at (hr.mono (by decide)) rfl (glo__law_cell_at T) kp_l_cell_at b_l_cell_at .nil pass0 (pa_cons (pv 0) (pa_cons pe_int pa_nil))) pe_int) pa_nil)))
        (pss_cons (ps_for PassesOwn.never rfl (pi_list (pe_op op_cat (pe_lst (pa_cons (pv 1) pa_nil)) (pe_lc (own := [("_law_size", 7)]) (g := gName 7) rfl sc_law.nd (pi_range2 rfl (free_range T) (pa_cons pe_int (pa_cons pe_int pa_nil))) (blkOk_by (own := [("_law_size", 7)]) (N := ["_law_script", "_law_word_here", "_law_most_here", "_law_some", "_law_top", "_law_due_here", "_law_found", "_law_size"]) (sc := defScope s_law) (by decide +kernel)) (fun _ _ _ _ _ => pg_name (i := 7) sc_law.nd rfl (Or.inl rfl)) (fun _ _ _ _ _ => pts_nil) (fun _ _ _ _ _ => (pe_slice (show SlR _ C8.rSlX from C8.sl_txt) (pv 1) po_none (po_some (pv 7))))))) (pg_name (i := 3) sc_law.nd rfl (Or.inl rfl)) (pss_one (ps_for PassesOwn.never rfl (pi_list (pe_lst (pa_cons (pv 2) (pa_cons (pe_powC (v := 1000000000000) (by rfl) (by decide +kernel)) pa_nil)))) (pg_name (i := 4) sc_law.nd rfl (Or.inl rfl)) (pss_cons (ps_set (i := 5) sc_law.nd rfl (Or.inl rfl) (pe_call G_l_due (hr.mono (by decide)) rfl (glo__law_due T) kp_l_due b_l_due .nil pass0 (pa_cons (pv 3) (pa_cons (pv 4) pa_nil))))
        (pss_cons (ps_set (i := 6) sc_law.nd rfl (Or.inl rfl) (pe_call G_whole_of (hr.mono (by decide)) rfl (glo_whole_of T) kp_whole_of b_whole_of .nil pass0 (pa_cons (pv 3) (pa_cons (pv 4) pa_nil))))
        (pss_cons (ps_if (PW.pt (pw_and (pt_cmpR op_isN (pv 5) pe_non (nomark _)) (pw_and1 (pt_cmpR op_notN (pv 6) pe_non (nomark _))))) (pss_one (ps_ret pe_bl)) pss_nil)
        (pss_one (ps_if (PW.pt (pw_and (pt_cmpR op_notN (pv 5) pe_non (nomark _)) (pw_and1 (PW.pt (pw_or (pt_not (pt_val (pe_call G_l_whole (hr.mono (by decide)) rfl (glo__law_whole T) kp_l_whole b_l_whole .nil pass0 (pa_cons (pv 6) pa_nil)))) (pw_or1 (pt_cmpR op_ne (pv 6) (pv 5) (nomark _)))))))) (pss_one (ps_ret pe_bl)) pss_nil))))))))
        (pss_one (ps_ret pe_bl))))), ?_⟩
    walk_at "rds"
    refine ⟨⟨ns, hS, hlen⟩, fun l H1 hl s1 => ?_⟩
    have hS1 := s1.seq hS
    clear hbits hO
    walk_at "rz"
    rename_i m
    refine fun H2 h0 h1 s2 => ?_
    walk_at "rds"
    refine fun p1 hp1 => ?_
    have s3 := (Same.refl H2).new (o := HO.lst [V.str (SX.S l)]) hp1
    have q1 : upd H2 p1 (HO.lst [V.str (SX.S l)]) p1 = some (HO.lst [V.str (SX.S l)]) := upd_same
    generalize upd H2 p1 (HO.lst [V.str (SX.S l)]) = H3 at s3 q1 ⊢
    walk_at "rds"
    refine fun D hD => lc_range (lo := 9) (n := 6) (fun i H' => ∃ acc : List (List Nat), H' D = some (.lst (acc.map txtV)) ∧ acc.length = i ∧ (∀ q ∈ acc, q.length ≤ 100) ∧ Same H3 H') ⟨[], upd_same, rfl, (fun q hq => by cases hq), (Same.refl H3).new hD⟩ ?_ ?_
    · rintro i H' hi ⟨acc, hacc, hal, hq, s⟩
      refine ⟨rfl, ?_⟩
      refine ⟨_, rfl, _, rfl, _, rfl, SX.S l, rfl, by rw [len_S]; exact small_size (by omega), ?_⟩
      rw [SX.slice_to (by omega)]
      refine ⟨acc.map txtV, hacc, ?_, acc ++ [l.take (9 + (i : Int)).toNat], ?_, ?_, ?_, s.mut hD⟩
      · rw [List.length_map]
        exact small_size (by omega)
      · rw [upd_same, List.map_append]
        rfl
      · rw [List.length_append]
        show acc.length + 1 = i + 1
        omega
      · intro q h
        rcases List.mem_append.mp h with h | h
        · exact hq q h
        · rw [List.mem_singleton.mp h, List.length_take]
          omega
    rintro H4 ⟨acc, hacc, hal, hq, s4⟩
    refine ⟨p1, D, _, _, rfl, rfl, s4 _ _ q1, hacc, ?_, fun p2 hp2 => ?_⟩
    · rw [List.length_map]
      exact small_size (by show 1 + acc.length ≤ 100000; omega)
    rw [show [V.str (SX.S l)] ++ acc.map txtV = (l :: acc).map txtV from rfl]
    have q2 : upd H4 p2 (HO.lst ((l :: acc).map txtV)) p2 = some (HO.lst ((l :: acc).map txtV)) := upd_same
    refine ⟨p2, rfl, ⟨_, SqL.of q2⟩, ?_⟩
    have hq' : ∀ q ∈ l :: acc, q.length ≤ 100 := by
      intro q h
      rcases List.mem_cons.mp h with rfl | h
      · exact hl
      · exact hq q h
    generalize l :: acc = ws at q2 hq' ⊢
    generalize upd H4 p2 (HO.lst (ws.map txtV)) = H5 at q2 ⊢
    refine for_list (K := K) (a := p2) (xs := ws.map txtV) (fun i σ' H' => ∃ v1 v2 v3 v4, σ' = [some (.ref a), some (.str (SX.S l)), some (.int m), v1, v2, v3, v4, none] ∧ Same H5 H') ⟨_, _, _, _, rfl, Same.refl _⟩ (fun i σ' H' _ ⟨_, _, _, _, _, s⟩ => s.seq (SqL.of q2)) ?_ ?_
    · rintro i y σ' H' hi ⟨v1, v2, v3, v4, rfl, s⟩
      obtain ⟨w0, hw0, hy⟩ := List.mem_map.mp (List.mem_of_getElem? hi)
      cases hy
      have hwl := hq' _ hw0
      refine ⟨_, rfl, ?_⟩
      walk_at "rds"
      refine fun p3 hp3 => ?_
      have s3 := s.new (o := HO.lst [V.int m, V.int 1000000000000]) hp3
      have q3 : upd H' p3 (HO.lst [V.int m, V.int 1000000000000]) p3 = some (HO.lst [V.int m, V.int 1000000000000]) := upd_same
      generalize upd H' p3 (HO.lst [V.int m, V.int 1000000000000]) = H6 at s3 q3 ⊢
      refine ⟨p3, rfl, ⟨_, SqL.of q3⟩, ?_⟩
      refine for_list (K := K) (a := p3) (xs := [V.int m, V.int 1000000000000]) (fun i σ' H' => ∃ v2 v3 v4, σ' = [some (.ref a), some (.str (SX.S l)), some (.int m), some (.str (SX.S w0)), v2, v3, v4, none] ∧ H' = H6) ⟨_, _, _, rfl, rfl⟩ (fun i σ' H' _ ⟨_, _, _, _, q⟩ => by rw [q]; exact SqL.of q3) ?_ ?_
      · rintro j y σ' H' hj ⟨v2, v3, v4, rfl, rfl⟩
        have ht : ∃ t, y = V.int t ∧ t ≤ 1000000000000 := by
          rcases (by rcases j with _ | _ | j <;> simp at hj <;> simp [hj.symm] : y = V.int m ∨ y = V.int 1000000000000) with rfl | rfl
          · exact ⟨m, rfl, h1⟩
          · exact ⟨1000000000000, rfl, by omega⟩
        obtain ⟨t, rfl, ht⟩ := ht
        refine ⟨_, rfl, ?_⟩
        walk_at "rds"
        rw [due_eq ht]
        rcases whole w0 t with _ | r
        · walk_at "rds"
          rfl
        · walk_at "rds"
          refine iteNVF rfl ?_
          exact ⟨_, _, _, rfl, rfl⟩
      · rintro σ' H' ⟨v2, v3, v4, rfl, rfl⟩
        exact ⟨_, _, _, _, rfl, s3⟩
    rintro σ' H' ⟨v1, v2, v3, v4, rfl, s⟩
    exact k _
theorem law_facts {fa : Addr} (T : Txt K mg) (hfa : mg "law" = some (.ref fa)) :
    ∃ fd : FuncData, (∀ (s : Shared) (v : Value), BindsTo s fd ⟨[v], []⟩ [("_law_script", v)]) ∧ ∀ base : Heap, K.In base → base.Ns mainGlobals mg → FnOk P w K mg base CX0 6 fa fd ["_law_script"] (spLaw K) := by
  have e := hfa.symm.trans (glo_law T)
  cases e
  obtain ⟨fd, _, F⟩ := ok_law (P := P) (w := w) (base := default) T
  refine ⟨fd, fun s v => FunD.bindsA (ps := ["_law_script"]) F (fun _ _ _ _ _ _ us hl => match us, hl with | [_], _ => rfl) s [v] rfl, fun base _ _ => ?_⟩
  obtain ⟨fd', G, F'⟩ := ok_law (P := P) (w := w) (base := base) T
  have q : fd' = fd := F'.fd_eq F
  rw [← q]
  exact G


end

abbrev R : PySem.W.OpenRow := PySem.W.OpenLaw.row PySem.Challenge.rw_lampcues_k21_whole_numbers_read
abbrev hk : PySem.W.Hook := He.hookD 6 fa fn
def ob (s : PySem.W.SharedT) : He.AlD := He.obsDG 6 fa fn (HandSHeadRun.getT s)
theorem ob_eq (s : PySem.W.SharedT) : ob s = hk.obs s.abs := He.obsDG_eq (HandSHeadRun.getT_eq s)
def loose0 : List PySem.Str := ["FIGURES", "whole_of", "_law_cell_at", "_law_whole", "_law_word", "_law_most", "_law_due"]
def loose : List PySem.Str := loose0
theorem run (w : World) : HandSHeadRun.RunEq R (PySem.W.view R.prog [9]) hk ob 4000 loose w := by
  intro os
  kernel_rfl
end G94
open PySem PySem.W PySem.Calls PyProof.Rows
theorem PySem.Challenge.cw_lampcues_k21_whole_numbers_read_holds : PySem.Challenge.rw_lampcues_k21_whole_numbers_read.Holds := by
  w_on; o_law
  refine HandSHeadRun.head_any (r := OpenLaw.row PySem.Challenge.rw_lampcues_k21_whole_numbers_read) (q := view (OpenLaw.row PySem.Challenge.rw_lampcues_k21_whole_numbers_read).prog [9]) (H := G94.hk) (ob := G94.ob) (M := 4000) (loose := G94.loose) (d := HandSHeadRun.topDef (OpenLaw.row PySem.Challenge.rw_lampcues_k21_whole_numbers_read).prog 9) (kwd := []) G94.ob_eq
    (by kernel_rfl) (fun s => by kernel_rfl) G94.run (by kernel_rfl) (by kernel_rfl) (by kernel_rfl) (by rfl) (by first | assumption | decide +kernel) (by decide +kernel) ⟨rfl, rfl, rfl, rfl, rfl, by decide +kernel⟩ ?hw ?hc
  case hw => w_witness2
  case hc =>
    refine L2.walk_ofEB (l := PySem.Challenge.rw_lampcues_k21_whole_numbers_read) (n := 63) (k := 6) (x := "_law_script") (CX := L2.CX0) rfl (by decide) (by kernel_rfl) ⟨rfl, by decide, by decide⟩ ?F (fun _ _ _ _ z => z)
    intro w mg fa h Y G hmg0
    obtain ⟨K, KX, c⟩ := Y
    have hmg : mg ("law" : PySem.Str) = some (.ref fa) := by
      have e : (HandSHeadRun.topDef (OpenLaw.row PySem.Challenge.rw_lampcues_k21_whole_numbers_read).prog 9).name = ("law" : PySem.Str) := by kernel_rfl
      rw [← e]
      exact hmg0
    obtain ⟨fd, hb, hF⟩ := G94.law_facts (P := (PySem.Challenge.rw_lampcues_k21_whole_numbers_read).prog) (w := w) ⟨c, h, KX, G⟩ hmg
    exact ⟨K, fd, G94.spLaw K, KX, hb, fun H a ns hl hb hH hS => ⟨a, ns, rfl, hS, hl, hb, hH, fun _ => rfl⟩, hF⟩
