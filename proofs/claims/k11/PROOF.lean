import PyProof.Rows.All
import Wide.All
import OpenK.AllK
import Wide.FinOn
import KE.KStateDown
import HandS.ForMost
import HandS.Exc
import HandS.TryOnly
import HandS.ExcOwn
import HandS.WordsExc
import HandS.Defaults
import HandS.Wide
import HandS.IsInst
import HandS.EndBits
import HandS.TupLe
import HandS.Rev
import HandS.Codes
import HandS.MakeKw
import HandS.StrMore
import HandS.Head0
import HandS.Head1
import HandS.Head2
import HandS.HeadEnd
import HandS.HeadHook1
import HandS.HeadHook2
import PySem.Challenge.RW_lampcues_k11_slots_and_worths
set_option Elab.async false
set_option linter.all false
set_option maxRecDepth 100000
set_option maxHeartbeats 4000000
namespace L2
open PySem PySem.Spec PyProof.Rows
/-! ### own rules, own words -/
/-- a law's end by facts, with the script's bits and the only tracked thing told -/
theorem walk_ofEB {l : PySem.W.OpenLaw} {n k : Nat} {q : Program} {loose : List Str} {XP : (Str → Option Value) → Heap → Prop} {YP : World → Heap → Prop} {d : DefRec} {CX : CXT} {x : Str}
    (hn : l.most = some n) (hn2 : n ≤ sizeLine) (hdf : d.params.defaults = []) (hr : Room k callerA)
    (F : ∀ (w : World) (mg : Str → Option Value) (fa : Addr) (h : Heap), YP w h → h.Ns mainGlobals mg → mg d.name = some (.ref fa) →
      ∃ (K : PySem.W.Frag) (fd : FuncData) (sp : Sp), K.In h ∧ (∀ (s : Shared) (u : Value), BindsTo s fd ⟨[u], []⟩ [(x, u)]) ∧
        (∀ (H : Hp) (a : Addr) (ns : List Int), ns.length ≤ n → (∀ z ∈ ns, Builtin.Int.intBits z ≤ 1048576) → Only H → SqL K H a (ns.map V.int) → sp [.ref a] H (fun v _ => v = .bl true) fun _ _ _ => False) ∧
        ∀ base : Heap, K.In base → base.Ns mainGlobals mg → FnOk l.prog w K mg base CX k fa fd [x] sp)
    (hCX : ∀ (H : Hp) (s : Shared) (e : Value) (s' : Shared), CX [] H s (fun _ _ _ => False) e s' → False) :
    PySem.W.WalkO q loose XP YP l.row.toRowW d [] (fun f vs => PySem.call f vs) := by
  refine Att.attach_callB hn hdf fun w s₀ s₁ mg mb fa o pm cd doc a vs ns G Y ho hd hcd hmg hobj hints hlen hbits hg => ?_
  obtain ⟨K, fd, sp, KX, hb, hsp, hF⟩ := F w mg fa _ Y G.T.g hmg
  exact law_call KX G.T.g G.T.b G.T.builtins G.T.nolimit hg hobj hints (Nat.le_trans hlen hn2) hr hF hb (fun H hO hS => hsp H a ns hlen hbits hO hS) fun H e s' => hCX H s₁ e s'
section
variable {X : Cx}
/-- a written power -/
theorem pe_powC {i j v : Int} {a b : Nat} {p1 p2 pos : Pos} (e : i ^ j.toNat = v) (h : 0 ≤ j ∧ j ≤ 1000000 ∧ i.natAbs < 2 ^ 64) : PE X (.BinOp (.Constant (.int i) a p1) .Pow (.Constant (.int j) b p2) pos) (tC (.int v)) := by
  subst e
  refine ⟨fun pins s σ H Q I q => ?_⟩
  exact (pe_op (X := X) op_pow pe_int pe_int).run pins s σ H Q I ⟨i, j, rfl, rfl, h, q⟩
/-- a written negative number -/
theorem pe_negC {i : Int} {a : Nat} {p1 pos : Pos} : PE X (.UnaryOp .USub (.Constant (.int i) a p1) pos) (tC (.int (-i))) := by
  refine ⟨fun pins s σ H Q I q => ?_⟩
  exact (pe_un (X := X) un_neg pe_int).run pins s σ H Q I ⟨i, rfl, q⟩
end
theorem iteD {c A B : Prop} [Decidable c] (h1 : c → A) (h2 : ¬ c → B) : if decide c = true then A else B := by
  by_cases h : c
  · rw [if_pos (decide_eq_true h)]
    exact h1 h
  · rw [if_neg (by rw [decide_eq_false h]; exact Bool.false_ne_true)]
    exact h2 h
theorem iteND {c A B : Prop} [Decidable c] (h1 : ¬ c → A) (h2 : c → B) : if (!decide c) = true then A else B := by
  by_cases h : c
  · rw [decide_eq_true h]
    exact iteF (h2 h)
  · rw [decide_eq_false h]
    exact iteT (h1 h)
theorem iteV {a b : Int} {A B : Prop} (h1 : a = b → A) (h2 : a ≠ b → B) : if decide (V.int a = V.int b) = true then A else B :=
  iteD (fun e => h1 (V.int.inj e)) fun e => h2 fun q => e (congrArg V.int q)
theorem iteNV {a b : Int} {A B : Prop} (h1 : a ≠ b → A) (h2 : a = b → B) : if (!decide (V.int a = V.int b)) = true then A else B :=
  iteND (fun e => h1 fun q => e (congrArg V.int q)) fun e => h2 (V.int.inj e)
theorem iteB {b : Bool} {A B : Prop} (h1 : b = true → A) (h2 : b = false → B) : if b = true then A else B := by
  cases b with
  | true => exact iteT (h1 rfl)
  | false => exact iteF (h2 rfl)
theorem iteDT {c A B : Prop} [Decidable c] (h : c) (h1 : A) : if decide c = true then A else B := iteD (fun _ => h1) fun q => absurd h q
theorem iteDF {c A B : Prop} [Decidable c] (h : ¬ c) (h1 : B) : if decide c = true then A else B := iteD (fun q => absurd q h) fun _ => h1
theorem iteVT {a b : Int} {A B : Prop} (h : a = b) (h1 : A) : if decide (V.int a = V.int b) = true then A else B := iteV (fun _ => h1) fun q => absurd h q
theorem iteVF {a b : Int} {A B : Prop} (h : a ≠ b) (h1 : B) : if decide (V.int a = V.int b) = true then A else B := iteV (fun q => absurd q h) fun _ => h1
theorem iteNVF {a b : Int} {A B : Prop} (h : a = b) (h1 : B) : if (!decide (V.int a = V.int b)) = true then A else B := iteNV (fun q => absurd h q) fun _ => h1
theorem yes_lc {σ : St} {H : Hp} {A B : Hp → Prop} (h : A H) : tYes σ H (fun b H3 => if b = true then A H3 else B H3) := by
  show if true = true then A H else B H
  rw [if_pos rfl]
  exact h
theorem qT {Q : VK} {H : Hp} {c : Prop} [Decidable c] (h : c) (k : Q (.bl true) H) : Q (.bl (decide c)) H := by
  rw [decide_eq_true h]
  exact k
theorem qF {Q : VK} {H : Hp} {c : Prop} [Decidable c] (h : ¬ c) (k : Q (.bl false) H) : Q (.bl (decide c)) H := by
  rw [decide_eq_false h]
  exact k
theorem iteS {a b : List Nat} {z : Str} {A B : Prop} (e : z = SX.S b) (h1 : a = b → A) (h2 : a ≠ b → B) : if decide (V.str (SX.S a) = V.str z) = true then A else B := by
  subst e
  exact iteD (fun q => h1 (SX.S_inj (V.str.inj q))) fun q => h2 fun r => q (congrArg (fun l => V.str (SX.S l)) r)
theorem iteNSt {a b : List Nat} {z : Str} {A B : Prop} (e : z = SX.S b) (h1 : a ≠ b → A) (h2 : a = b → B) : if (!decide (V.str (SX.S a) = V.str z)) = true then A else B := by
  subst e
  exact iteND (fun q => h1 fun r => q (congrArg (fun l => V.str (SX.S l)) r)) fun q => h2 (SX.S_inj (V.str.inj q))
theorem cut_ints (ns : List Int) (lo hi : Option Int) : ∃ ms : List Int, cutV (ns.map V.int) lo hi = ms.map V.int ∧ ms.length ≤ ns.length ∧ ∀ z ∈ ms, z ∈ ns := by
  refine ⟨(ns.drop (HT.sIx (ns.map V.int).length 0 lo)).take (HT.sIx (ns.map V.int).length (ns.map V.int).length hi - HT.sIx (ns.map V.int).length 0 lo), ?_, ?_, ?_⟩
  · unfold cutV
    rw [List.map_take, List.map_drop]
  · rw [List.length_take, List.length_drop]
    omega
  · intro z hz
    exact List.mem_of_mem_drop (List.mem_of_mem_take hz)
theorem int_at {ns : List Int} {i : Nat} {y : V} (h : (ns.map V.int)[i]? = some y) : ∃ z, y = V.int z ∧ ns[i]? = some z ∧ i < ns.length := by
  rw [List.getElem?_map] at h
  cases e : ns[i]? with
  | none =>
    rw [e] at h
    cases h
  | some z =>
    rw [e] at h
    exact ⟨z, (Option.some.inj h).symm, rfl, (List.getElem?_eq_some_iff.mp e).1⟩
theorem atI_lt {xs : List V} {k : Int} (h0 : 0 ≤ k) (h1 : k < xs.length) : ∃ v, atI xs k = some v ∧ xs[k.toNat]? = some v := by
  have hl : k.toNat < xs.length := by omega
  refine ⟨xs[k.toNat], ?_, List.getElem?_eq_getElem hl⟩
  obtain ⟨n, rfl⟩ : ∃ n : Nat, k = n := ⟨k.toNat, by omega⟩
  exact atI_nat (List.getElem?_eq_getElem hl)
theorem at2 {a b k : Int} (h0 : 0 ≤ k) (h1 : k < 2) : ∃ v, atI [V.int a, V.int b] k = some (V.int v) ∧ ((k = 0 ∧ v = a) ∨ (k = 1 ∧ v = b)) := by
  rcases (by omega : k = 0 ∨ k = 1) with rfl | rfl
  · exact ⟨a, rfl, .inl ⟨rfl, rfl⟩⟩
  · exact ⟨b, rfl, .inr ⟨rfl, rfl⟩⟩
theorem at3 {a b c k : Int} (h0 : 0 ≤ k) (h1 : k < 3) : ∃ v, atI [V.int a, V.int b, V.int c] k = some (V.int v) ∧ ((k = 0 ∧ v = a) ∨ (k = 1 ∧ v = b) ∨ (k = 2 ∧ v = c)) := by
  rcases (by omega : k = 0 ∨ k = 1 ∨ k = 2) with rfl | rfl | rfl
  · exact ⟨a, rfl, .inl ⟨rfl, rfl⟩⟩
  · exact ⟨b, rfl, .inr (.inl ⟨rfl, rfl⟩)⟩
  · exact ⟨c, rfl, .inr (.inr ⟨rfl, rfl⟩)⟩
/-- a call that writes all parameters, the last ones by name -/
theorem kb_all {K : PySem.W.Frag} {x qual : Str} {params : Arguments} {body : List Stmt} {scope : Scope} {dvs : List V} {kws : List (Str × V)} {f : Addr} {fd : FuncData} {ps : List Str} (F : FunD K x qual params body scope dvs kws f fd) (n : Nat) (ks : List Str) (hd : dvs ≠ [])
    (h : ∀ (T : Addr) (kV doc pm : Value) (an : Option Addr) (cdv ct : Value) (us its ws : List Value), us.length = n → its.length = dvs.length → ws.length = ks.length →
      ∃ k, bindArgs (PySem.W.fnOf x qual params body scope (.ref T) kV doc pm an cdv ct) ⟨us, ks.zip ws⟩ = seqItems? (.ref T) >>= k ∧ k (some its.toArray) = pure (ps.zip (us ++ ws))) : KBn K fd ps n ks (fun us ws => us ++ ws) (fun vs zs => vs ++ zs) := by
  obtain ⟨oc, od, dV, kV, doc, pm, an, cdv, ct, osl, rfl, lk, hcd, hD, _⟩ := F.ex
  rcases hD with ⟨e, _⟩ | ⟨_, T, o, its, m, rfl, lT, oT, rT⟩
  · exact absurd e hd
  · refine ⟨fun s us ws X h1 h2 => ?_, fun r1 r2 => r1.append r2⟩
    obtain ⟨k, e1, e2⟩ := h T kV doc pm an cdv ct us its ws h1 rT.length.symm h2
    refine BindsTo.of_looks fun M => ?_
    rw [e1]
    exact looks_items X lT oT (.of_pure e2)
theorem FunD.fd_eq {K : PySem.W.Frag} {x qual : Str} {params : Arguments} {body : List Stmt} {scope : Scope} {dvs : List V} {kws : List (Str × V)} {f : Addr} {fd fd' : FuncData} (F : FunD K x qual params body scope dvs kws f fd) (F' : FunD K x qual params body scope dvs kws f fd') : fd = fd' := by
  obtain ⟨_, _, _, _, _, _, _, _, _, _, _, l, _⟩ := F.ex
  obtain ⟨_, _, _, _, _, _, _, _, _, _, _, l', _⟩ := F'.ex
  rw [l] at l'
  simp only [Option.some.injEq, Obj.mk.injEq, Data.func.injEq] at l'
  exact l'.2.2.1
theorem at4 {a b c d k : Int} (h0 : 0 ≤ k) (h1 : k < 4) : ∃ v, atI ([a, b, c, d].map V.int) k = some (V.int v) := by
  rcases (by omega : k = 0 ∨ k = 1 ∨ k = 2 ∨ k = 3) with rfl | rfl | rfl | rfl
  · exact ⟨a, rfl⟩
  · exact ⟨b, rfl⟩
  · exact ⟨c, rfl⟩
  · exact ⟨d, rfl⟩
theorem ints_last {es : List Int} {v : Int} (h : es.getLast? = some v) : atI (es.map V.int) (-1) = some (V.int v) := by
  obtain ⟨r, e⟩ := List.getLast?_eq_some_iff.mp h
  rw [e, List.map_append]
  exact atI_last _ _
/-- a loop over the signs of a text -/
theorem for_text {l : List Nat} {g : TG} {tb : TS} {D : Ends} {σ : St} {H : Hp} (Pv : Nat → St → Hp → Prop) (h0 : Pv 0 σ H)
    (hs : ∀ (i : Nat) (c : Nat) (σ : St) (H : Hp), l[i]? = some c → Pv i σ H → g (.str ⟨#[c]⟩) σ H (fun σ2 H2 => tb { D with nx := Pv (i + 1), ct := Pv (i + 1), bk := D.nx } σ2 H2))
    (hd : ∀ σ H, Pv l.length σ H → D.nx σ H) :
    ∃ W : Nat → Nat → St → Hp → Prop, (∃ m, W 0 m σ H) ∧ ∀ i m σ H, W i m σ H → ((Its (SX.S l)).stop i H ∧ D.nx σ H) ∨
      ((Its (SX.S l)).go i H ∧ ∃ N : St → Hp → Prop, (∀ σ' H', N σ' H' → ∃ m', m' < m ∧ W (i + 1) m' σ' H') ∧ ∀ v H', (Its (SX.S l)).yld i H v H' → g v σ H' fun σ2 H2 => tb { D with nx := N, ct := N, bk := D.nx } σ2 H2) := by
  refine ⟨fun i m σ H => m = l.length - i ∧ i ≤ l.length ∧ Pv i σ H, ⟨_, rfl, Nat.zero_le _, h0⟩, ?_⟩
  intro i m σ1 H1 hw
  obtain ⟨em, hi, p⟩ := hw
  have es : (SX.S l).cps.size = l.length := by simp
  rcases Nat.lt_or_ge i l.length with hlt | hge
  · right
    refine ⟨(by show i < (SX.S l).cps.size; omega), Pv (i + 1), fun σ' H' p' => ⟨l.length - (i + 1), by omega, rfl, by omega, p'⟩, ?_⟩
    intro v H' hy
    obtain ⟨e, c, hc, ev⟩ := hy
    rw [e, ev]
    refine hs i c σ1 H1 ?_ p
    have h2 : (SX.S l).cps[i]? = l[i]? := by simp
    rw [← h2]
    exact hc
  · left
    refine ⟨(by show (SX.S l).cps.size ≤ i; omega), hd σ1 H1 ?_⟩
    have e : i = l.length := by omega
    rw [← e]
    exact p
theorem atI_head {α : Type} (c : α) (r : List α) : atI (c :: r) 0 = some c := by
  show atI (c :: r) ((0 : Nat) : Int) = some c
  exact atI_nat rfl
theorem small_size {n : Nat} (h : n ≤ 100000) : n ≤ sizeLine := Nat.le_trans h (by decide)
theorem Same.new {H H' : Hp} {p : Addr} {o : HO} (e : Same H H') (h : H' p = none) : Same H (upd H' p o) := fun a u q => by
  rw [upd_ne (ne_of_none (e a u q) h)]
  exact e a u q
theorem Same.mut {H H' : Hp} {p : Addr} {o : HO} (e : Same H H') (h : H p = none) : Same H (upd H' p o) := fun a u q => by
  rw [upd_ne (ne_of_none q h)]
  exact e a u q
/-- o.m(e, .., k = v, ..) -/
def tMethN (C : Addr) (m : Str) (n j : Nat) (sp : Sp) (gV : List V → List V → List V) (E : XK) (ta : TE) (t tk : TA) : TE := fun σ H Q => ta σ H fun x H1 => ∃ a dx fs, x = .ref a ∧ H1 a = some (.ins C dx fs) ∧ fs.lookup m = none ∧
  t σ H1 fun vs H2 => tk σ H2 fun zs H3 => vs.length = n ∧ zs.length = j ∧ sp (gV (x :: vs) zs) H3 Q E
theorem pe_methN {X : Cx} {CX : CXT} {k n : Nat} {f C : Addr} {fd : FuncData} {ps ks : List Str} {sp : Sp} {E : XK} {m : Str} {o e : Expr} {es : List Expr} {kws : List Keyword} {apos pos : Pos} {ta : TE} {t tk : TA} {g : List Value → List Value → List Value} {gV : List V → List V → List V} {pl : Sem Bool}
    (he : PE X o ta) (c : Cls X.K C) (hm : Meth X.K C m f) (F : FnOk X.prog X.w X.K X.mg X.base CX k f fd ps sp) (hr : Room k X.A) (hb : KBn X.K fd ps (n + 1) ks g gV) (hx : Passes CX X E) (ha : PA X (e :: es) t) (hkw : PK X kws tk)
    (hall : (backToKw pos (keywordEach kws X.env)).all (·.1.isSome) = true := by rfl)
    (hks : (backToKw pos (keywordEach kws X.env)).filterMap (·.1) = ks := by rfl)
    (hst : starEach (e :: es) X.env = (false, eval e X.env) :: starEach es X.env := by rfl)
    (hpl : ((backTo pos (starEach (e :: es) X.env)).any (·.1) || (backToKw pos (keywordEach kws X.env)).any (·.1.isNone)) = false := by rfl)
    (ht : eval (.Call (.Attribute o m apos) (e :: es) kws pos) X.env = (do
      let ov ← eval o X.env
      standAt apos.atName
      let (f, first) ← holding [ov] (getMethod ov m pl)
      callWith pos f first (backTo pos (starEach (e :: es) X.env)) (backToKw pos (keywordEach kws X.env))) := by rfl) :
    PE X (.Call (.Attribute o m apos) (e :: es) kws pos) (tMethN C m n ks.length sp gV E ta t tk) := by
  constructor
  intro pins s σ H Q I hh
  apply PySem.W.methodCall_KW (pl := pl) (he := ht)
  apply thn (he.run pins s σ H _ I hh)
  rintro u s1 ⟨x, H1, I1, rx, a, dx, fs, rfl, ea, l, q⟩
  obtain rfl : u = Value.ref a := rx
  apply getmeth_ok I1 ea c hm l
  apply PySem.W.callWith_KW (first := [.ref a]) (h₀ := X.base) I.ok.mod.kin hm.kp hall (hplain := hpl) (he := hst)
  apply thn (ha.run pos pins s1 σ H1 _ I1 q)
  rintro us s2 ⟨vs, H2, I2, r, q2⟩
  apply thn (hkw.run pos pins s2 σ H2 _ I2 q2)
  rintro ws s3 ⟨zs, H3, I3, rz, l1, l2, q3⟩
  refine ⟨I3.kIn, ?_⟩
  rw [hks]
  exact run_fnN (us := .ref a :: us) (vs := .ref a :: vs) F hr hb hx I3 (.cons rfl r) rz (congrArg Nat.succ l1) l2 q3
/-! ### a head that asks one more thing of the written part -/
def obsY (n : Nat) (fa : List He.Fa) (fn : List He.DefD) (ex : PySem.W.Frag → Bool) (g : Addr → Option Obj) : He.AlD × Bool := (He.obsDG n fa fn g, ex (He.frG g (He.asD g n)))
def hookY (n : Nat) (fa : List He.Fa) (fn : List He.DefD) (ex : PySem.W.Frag → Bool) : PySem.W.Hook where
  α := He.AlD × Bool
  obs := fun s => obsY n fa fn ex s.heap.get?
  val := fun _ => (He.valD fn, true)
  says := fun _ h => ∃ K : PySem.W.Frag, K.In h ∧ He.SaysD fa fn K ∧ ex K = true
  of := fun _ _ e => ⟨_, He.frG_in, congrArg Prod.fst e, congrArg Prod.snd e⟩
  keeps := fun _ _ _ ⟨K, hK, c⟩ k => ⟨K, PySem.W.Frag.In.keeps hK k, c⟩
theorem obsY_eq {n : Nat} {fa : List He.Fa} {fn : List He.DefD} {ex : PySem.W.Frag → Bool} {g : Addr → Option Obj} {s : Shared} (h : ∀ a, g a = s.heap.get? a) : obsY n fa fn ex g = (hookY n fa fn ex).obs s := by
  have e : g = s.heap.get? := funext h
  rw [e]
  rfl
end L2
/-! ### the words of a reading: sd a side condition, rd one step, rds as many as go by themselves, ri a test -/
local macro_rules | `(tactic| walk_at "sd") => `(tactic| first
  | omega
  | (show (0 : Int) < _; omega)
  | (show (0 : Int) ≤ _; omega)
  | exact .inl ⟨by omega, by omega⟩
  | exact .inr ⟨by omega, by omega⟩
  | exact ⟨by decide, by decide⟩
  | exact ⟨by omega, by omega⟩
  | exact L2.small_size (Nat.le_of_ble_eq_true rfl)
  | exact L2.wide_div (b := 64) (by omega) (by omega) (by decide) (by decide)
  | assumption
  | exact ⟨_, by assumption⟩)
local macro_rules | `(tactic| walk_at "rd") => `(tactic| first
  | refine ⟨_, rfl, ?_⟩
  | refine ⟨_, _, rfl, rfl, ?_⟩
  | refine ⟨_, _, rfl, ?_⟩
  | refine ⟨_, _, _, rfl, ?_⟩
  | refine ⟨_, _, _, _, rfl, ?_⟩
  | refine ⟨_, _, _, _, _, rfl, ?_⟩
  | refine ⟨_, _, _, _, _, _, rfl, ?_⟩
  | refine ⟨rfl, ?_⟩
  | refine L2.iteF ?_
  | refine L2.iteT ?_
  | refine And.intro (by walk_at "sd") ?_
  | refine ⟨_, _, _, _, true, rfl, .ty _, .base (.int _), L2.kit_ty (by decide +kernel), ?_⟩
  | refine ⟨_, _, _, _, false, rfl, .ty _, .base (.int _), L2.kit_ty (by decide +kernel), ?_⟩
  | refine ⟨_, _, _, _, true, rfl, .ty _, .base (.bl _), L2.kit_ty (by decide +kernel), ?_⟩
  | refine ⟨_, _, _, _, false, rfl, .ty _, .base (.bl _), L2.kit_ty (by decide +kernel), ?_⟩
  | refine ⟨_, _, _, _, true, rfl, .ty _, .base (.str _), L2.kit_ty (by decide +kernel), ?_⟩
  | refine ⟨_, _, _, _, false, rfl, .ty _, .base (.str _), L2.kit_ty (by decide +kernel), ?_⟩
  | refine ⟨_, _, _, _, true, rfl, .ty _, .base .non, L2.kit_ty (by decide +kernel), ?_⟩
  | refine ⟨_, _, _, _, false, rfl, .ty _, .base .non, L2.kit_ty (by decide +kernel), ?_⟩)
local macro_rules | `(tactic| walk_at "rds") => `(tactic| repeat walk_at "rd")
local macro_rules | `(tactic| walk_at "rz") => `(tactic| repeat first
  | walk_at "rd"
  | refine fun (_ : Int) => ?_
  | refine fun (_ : (_ : Int) ≤ _) => ?_
  | refine fun (_ : (_ : Int) < _) => ?_)
local macro_rules | `(tactic| walk_at "ri") => `(tactic| first
  | refine L2.iteV ?_ ?_
  | refine L2.iteNV ?_ ?_
  | refine L2.iteD ?_ ?_
  | refine L2.iteND ?_ ?_
  | refine L2.iteB ?_ ?_)
local macro_rules | `(tactic| walk_at "nf") => `(tactic| try dsimp only [L2.start, List.set_cons_zero, List.set_cons_succ])
local macro_rules | `(tactic| walk_at "g94len") => `(tactic| (intro vs H Q E h; first
  | (obtain ⟨e, _⟩ := h; exact congrArg List.length e)
  | (obtain ⟨_, e, _⟩ := h; exact congrArg List.length e)
  | (obtain ⟨_, _, e, _⟩ := h; exact congrArg List.length e)
  | (obtain ⟨_, _, _, e, _⟩ := h; exact congrArg List.length e)
  | (obtain ⟨_, _, _, _, e, _⟩ := h; exact congrArg List.length e)
  | (obtain ⟨_, _, _, _, _, e, _⟩ := h; exact congrArg List.length e)
  | (obtain ⟨_, _, _, _, _, _, e, _⟩ := h; exact congrArg List.length e)
  | (obtain ⟨_, _, _, _, _, _, _, e, _⟩ := h; exact congrArg List.length e)
  | (obtain ⟨_, _, _, _, _, _, _, _, e, _⟩ := h; exact congrArg List.length e)
  | (obtain ⟨_, _, _, _, _, _, _, _, _, e, _⟩ := h; exact congrArg List.length e)
  | (obtain ⟨_, _, _, _, _, _, _, _, _, _, e, _⟩ := h; exact congrArg List.length e)))
local macro_rules | `(tactic| walk_at "g94tr") => `(tactic| (set_option pp.deepTerms false in set_option pp.deepTerms.threshold 8 in trace_state))
namespace G94
open PySem PySem.Spec PyProof.Rows L2
def top (i : Nat) : Stmt := PySem.Challenge.pw_lampcues_k11_slots_and_worths.main.body.getD i (.Pass ⟨0, 0, 0, 0⟩)
abbrev s_is_amid : Stmt := top 4
theorem sc_is_amid : FnScope ["thing", "least", "most"] ["thing", "least", "most"] (defScope s_is_amid) := ⟨rfl, rfl, rfl, by decide +kernel, rfl, by decide +kernel, by decide +kernel⟩
abbrev s_is_lamp : Stmt := top 5
theorem sc_is_lamp : FnScope ["thing", "sign"] ["thing"] (defScope s_is_lamp) := ⟨rfl, rfl, rfl, by decide +kernel, rfl, by decide +kernel, by decide +kernel⟩
abbrev s_is_slot : Stmt := top 6
theorem sc_is_slot : FnScope ["thing"] ["thing"] (defScope s_is_slot) := ⟨rfl, rfl, rfl, by decide +kernel, rfl, by decide +kernel, by decide +kernel⟩
abbrev s_is_worth : Stmt := top 7
theorem sc_is_worth : FnScope ["thing"] ["thing"] (defScope s_is_worth) := ⟨rfl, rfl, rfl, by decide +kernel, rfl, by decide +kernel, by decide +kernel⟩
abbrev s_l_sign : Stmt := top 9
theorem sc_l_sign : FnScope ["_law_number", "_law_some"] ["_law_number"] (defScope s_l_sign) := ⟨rfl, rfl, rfl, by decide +kernel, rfl, by decide +kernel, by decide +kernel⟩
abbrev s_l_word : Stmt := top 10
theorem sc_l_word : FnScope ["_law_mixed", "_law_letters", "_law_size", "_law_word_here", "_law_k", "_law_at"] ["_law_mixed"] (defScope s_l_word) := ⟨rfl, rfl, rfl, by decide +kernel, rfl, by decide +kernel, by decide +kernel⟩
abbrev s_l_lamp : Stmt := top 11
theorem sc_l_lamp : FnScope ["_law_word_here", "_law_sign_here"] ["_law_word_here"] (defScope s_l_lamp) := ⟨rfl, rfl, rfl, by decide +kernel, rfl, by decide +kernel, by decide +kernel⟩
abbrev s_l_side : Stmt := top 12
theorem sc_l_side : FnScope ["_law_number", "_law_sides"] ["_law_number"] (defScope s_l_side) := ⟨rfl, rfl, rfl, by decide +kernel, rfl, by decide +kernel, by decide +kernel⟩
abbrev s_l_is : Stmt := top 13
theorem sc_l_is : FnScope ["_law_found", "_law_due"] ["_law_found", "_law_due"] (defScope s_l_is) := ⟨rfl, rfl, rfl, by decide +kernel, rfl, by decide +kernel, by decide +kernel⟩
abbrev s_l_good : Stmt := top 14
theorem sc_l_good : FnScope ["_law_cell", "_law_k", "_law_mixed", "_law_word_here", "_law_side_here", "_law_due", "_law_number"] ["_law_cell", "_law_k"] (defScope s_l_good) := ⟨rfl, rfl, rfl, by decide +kernel, rfl, by decide +kernel, by decide +kernel⟩
abbrev s_law : Stmt := top 15
theorem sc_law : FnScope ["_law_script", "_law_k", "_law_thing"] ["_law_script"] (defScope s_law) := ⟨rfl, rfl, rfl, by decide +kernel, rfl, by decide +kernel, by decide +kernel⟩
def d_is_amid : He.DefD := ⟨("is_amid", none), "is_amid", "is_amid", defArgs s_is_amid, defBody s_is_amid, defScope s_is_amid, [], []⟩
def d_is_lamp : He.DefD := ⟨("is_lamp", none), "is_lamp", "is_lamp", defArgs s_is_lamp, defBody s_is_lamp, defScope s_is_lamp, [], []⟩
def d_is_slot : He.DefD := ⟨("is_slot", none), "is_slot", "is_slot", defArgs s_is_slot, defBody s_is_slot, defScope s_is_slot, [], []⟩
def d_is_worth : He.DefD := ⟨("is_worth", none), "is_worth", "is_worth", defArgs s_is_worth, defBody s_is_worth, defScope s_is_worth, [], []⟩
def d_l_sign : He.DefD := ⟨("_law_sign", none), "_law_sign", "_law_sign", defArgs s_l_sign, defBody s_l_sign, defScope s_l_sign, [], []⟩
def d_l_word : He.DefD := ⟨("_law_word", none), "_law_word", "_law_word", defArgs s_l_word, defBody s_l_word, defScope s_l_word, [], []⟩
def d_l_lamp : He.DefD := ⟨("_law_lamp", none), "_law_lamp", "_law_lamp", defArgs s_l_lamp, defBody s_l_lamp, defScope s_l_lamp, [], []⟩
def d_l_side : He.DefD := ⟨("_law_side", none), "_law_side", "_law_side", defArgs s_l_side, defBody s_l_side, defScope s_l_side, [], []⟩
def d_l_is : He.DefD := ⟨("_law_is", none), "_law_is", "_law_is", defArgs s_l_is, defBody s_l_is, defScope s_l_is, [], []⟩
def d_l_good : He.DefD := ⟨("_law_good", none), "_law_good", "_law_good", defArgs s_l_good, defBody s_l_good, defScope s_l_good, [], []⟩
def d_law : He.DefD := ⟨("law", none), "law", "law", defArgs s_law, defBody s_law, defScope s_law, [], []⟩
def fn : List He.DefD := [d_is_amid, d_is_lamp, d_is_slot, d_is_worth, d_l_sign, d_l_word, d_l_lamp, d_l_side, d_l_is, d_l_good, d_law]
def fa : List He.Fa := [.glo "is_amid", .glo "is_lamp", .glo "is_slot", .glo "is_worth", .glo "_law_sign", .glo "_law_word", .glo "_law_lamp", .glo "_law_side", .glo "_law_is", .glo "_law_good", .glo "law", .glo "SIDES", .free "len", .free "min", .free "isinstance", .free "int", .free "bool", .free "str", .free "tuple", .free "range", .str "LETTERS" "abcdefghijklmnopqrstuvwxyz", .int "MOST" 1000000000]
def exB (K : PySem.W.Frag) : Bool := He.tupB K "SIDES" [.str "blue", .str "bright", .str "green", .str "pan", .str "red", .str "tilt"] && true
/-- what the top leaves -/
structure Txt (K : PySem.W.Frag) (mg : Str → Option Value) : Prop where
  c : He.SaysD fa fn K
  hp : ∃ h : Heap, K.In h ∧ h.Ns mainGlobals mg
  x : exB K = true
section
variable {K : PySem.W.Frag} {mg : Str → Option Value}
theorem tup_SIDES (T : Txt K mg) (H : L2.Hp) : L2.SqT K H (He.ga K "SIDES") [L2.V.str "blue", L2.V.str "bright", L2.V.str "green", L2.V.str "pan", L2.V.str "red", L2.V.str "tilt"] := He.tupB_ok (He.ba T.x).1 H
theorem glo_is_amid (T : Txt K mg) : mg "is_amid" = some (.ref (He.ga K "is_amid")) := by
  obtain ⟨h, X, G⟩ := T.hp
  exact He.glo_ok X G (T.c.fact 0 rfl)
theorem glo_is_lamp (T : Txt K mg) : mg "is_lamp" = some (.ref (He.ga K "is_lamp")) := by
  obtain ⟨h, X, G⟩ := T.hp
  exact He.glo_ok X G (T.c.fact 1 rfl)
theorem glo_is_slot (T : Txt K mg) : mg "is_slot" = some (.ref (He.ga K "is_slot")) := by
  obtain ⟨h, X, G⟩ := T.hp
  exact He.glo_ok X G (T.c.fact 2 rfl)
theorem glo_is_worth (T : Txt K mg) : mg "is_worth" = some (.ref (He.ga K "is_worth")) := by
  obtain ⟨h, X, G⟩ := T.hp
  exact He.glo_ok X G (T.c.fact 3 rfl)
theorem glo__law_sign (T : Txt K mg) : mg "_law_sign" = some (.ref (He.ga K "_law_sign")) := by
  obtain ⟨h, X, G⟩ := T.hp
  exact He.glo_ok X G (T.c.fact 4 rfl)
theorem glo__law_word (T : Txt K mg) : mg "_law_word" = some (.ref (He.ga K "_law_word")) := by
  obtain ⟨h, X, G⟩ := T.hp
  exact He.glo_ok X G (T.c.fact 5 rfl)
theorem glo__law_lamp (T : Txt K mg) : mg "_law_lamp" = some (.ref (He.ga K "_law_lamp")) := by
  obtain ⟨h, X, G⟩ := T.hp
  exact He.glo_ok X G (T.c.fact 6 rfl)
theorem glo__law_side (T : Txt K mg) : mg "_law_side" = some (.ref (He.ga K "_law_side")) := by
  obtain ⟨h, X, G⟩ := T.hp
  exact He.glo_ok X G (T.c.fact 7 rfl)
theorem glo__law_is (T : Txt K mg) : mg "_law_is" = some (.ref (He.ga K "_law_is")) := by
  obtain ⟨h, X, G⟩ := T.hp
  exact He.glo_ok X G (T.c.fact 8 rfl)
theorem glo__law_good (T : Txt K mg) : mg "_law_good" = some (.ref (He.ga K "_law_good")) := by
  obtain ⟨h, X, G⟩ := T.hp
  exact He.glo_ok X G (T.c.fact 9 rfl)
theorem glo_law (T : Txt K mg) : mg "law" = some (.ref (He.ga K "law")) := by
  obtain ⟨h, X, G⟩ := T.hp
  exact He.glo_ok X G (T.c.fact 10 rfl)
theorem glo_SIDES (T : Txt K mg) : mg "SIDES" = some (.ref (He.ga K "SIDES")) := by
  obtain ⟨h, X, G⟩ := T.hp
  exact He.glo_ok X G (T.c.fact 11 rfl)
theorem free_len (T : Txt K mg) : mg "len" = none := by
  obtain ⟨h, X, G⟩ := T.hp
  exact He.free_ok X G (T.c.fact 12 rfl)
theorem free_min (T : Txt K mg) : mg "min" = none := by
  obtain ⟨h, X, G⟩ := T.hp
  exact He.free_ok X G (T.c.fact 13 rfl)
theorem free_isinstance (T : Txt K mg) : mg "isinstance" = none := by
  obtain ⟨h, X, G⟩ := T.hp
  exact He.free_ok X G (T.c.fact 14 rfl)
theorem free_int (T : Txt K mg) : mg "int" = none := by
  obtain ⟨h, X, G⟩ := T.hp
  exact He.free_ok X G (T.c.fact 15 rfl)
theorem free_bool (T : Txt K mg) : mg "bool" = none := by
  obtain ⟨h, X, G⟩ := T.hp
  exact He.free_ok X G (T.c.fact 16 rfl)
theorem free_str (T : Txt K mg) : mg "str" = none := by
  obtain ⟨h, X, G⟩ := T.hp
  exact He.free_ok X G (T.c.fact 17 rfl)
theorem free_tuple (T : Txt K mg) : mg "tuple" = none := by
  obtain ⟨h, X, G⟩ := T.hp
  exact He.free_ok X G (T.c.fact 18 rfl)
theorem free_range (T : Txt K mg) : mg "range" = none := by
  obtain ⟨h, X, G⟩ := T.hp
  exact He.free_ok X G (T.c.fact 19 rfl)
theorem str_LETTERS (T : Txt K mg) : ∃ t, mg "LETTERS" = some (.str "abcdefghijklmnopqrstuvwxyz" t) := by
  obtain ⟨h, X, G⟩ := T.hp
  exact He.str_ok X G (T.c.fact 20 rfl)
theorem int_MOST (T : Txt K mg) : ∃ t, mg "MOST" = some (.int 1000000000 t) := by
  obtain ⟨h, X, G⟩ := T.hp
  exact He.int_ok X G (T.c.fact 21 rfl)
end
section
variable {K : PySem.W.Frag} {mg : Str → Option Value}

end
section
variable {P : Program} {w : World} {K : PySem.W.Frag} {mg : Str → Option Value} {base : Heap}
theorem units65 {k : Nat} {A : Around} (r : Room k A) : A.units + 65 < cLine := by
  have := r.un
  omega
section
variable {X : Cx}
/-- x in a tuple, both data -/
def rInTD (K : PySem.W.Frag) : R2 := fun x y H Q => ∃ p xs d ds, y = .ref p ∧ SqT K H p xs ∧ Dp K H x d ∧ DpAll K H xs ds ∧ SeqAt.shaped d = true ∧ SeqAt.shaped (.list ds) = true ∧ Q (.bl (ds.any fun z => PyData.eqv z d)) H
theorem op_inTD (hu : X.A.units + 65 < cLine) : OpR X (compareOp .In) (rInTD X.K) := by
  intro pins s σ H x y v u Q I rx ry h
  obtain ⟨p, xs, d, ds, rfl, hq, hx, hxs, sd, sl, q⟩ := h
  cases ry
  obtain ⟨bs, r1⟩ := Dp.reads I d x v hx rx
  obtain ⟨its, r, pl, hz⟩ := I.tuple hq
  obtain ⟨as, h4⟩ := Dp.readsAll I ds xs its hxs r
  have hc : PyData.canLayAll0 ds = true := SeqAt.canLay_of_shaped sl
  refine SeqAt.in_tupleAt (fun u => PyData.eqv (SeqAt.readOf s.heap u) d) pl (SeqAt.items_eqAt (vs := its.toArray) (show ReadsAll s.heap its.toArray.toList ds as from h4) r1 hc (SeqAt.canLay_of_shaped sd) (room_in_shaped sd hu)) ⟨.bl _, H, I, rfl, ?_⟩
  have e : its.toArray.any (fun u => PyData.eqv (SeqAt.readOf s.heap u) d) = ds.any fun z => PyData.eqv z d := by
    rw [← SeqAt.readsAll_map ds its as hc h4]
    simp [List.any_map, Function.comp_def]
  rw [e]
  exact q
end
theorem len_S (l : List Nat) : (SX.S l).length = l.length := SX.S_len l
/-- a value of another type -/
def IsA (K : PySem.W.Frag) (H : Hp) (v : V) (t : String) (b : Bool) : Prop := ∃ u, TyX K H v u ∧ PySem.W.kitOne K u (.type t) = some b
def letters : Str := "abcdefghijklmnopqrstuvwxyz"
def lampB (l : List Nat) : Bool := decide (1 ≤ l.length) && decide (l.length ≤ 8) && l.all fun c => decide (c ∈ letters.cps.toList)
def spAmid (K : PySem.W.Frag) : Sp := fun vs H Q _ => ∃ (v : V) (a b : Int), vs = [v, .int a, .int b] ∧ ((∃ n : Int, v = .int n ∧ Q (.bl (decide (a ≤ n ∧ n ≤ b))) H) ∨ (∃ t, v = .bl t ∧ Q (.bl false) H) ∨ (IsA K H v "int" false ∧ Q (.bl false) H))
theorem ok_is_amid (T : Txt K mg) : ∃ fd, FnOk P w K mg base CX0 1 (He.fAd K ("is_amid", none)) fd ["thing", "least", "most"] (spAmid K) ∧ FunD K "is_amid" "is_amid" (defArgs s_is_amid) (defBody s_is_amid) (defScope s_is_amid) [] [] (He.fAd K ("is_amid", none)) fd := by
  obtain ⟨fd, F⟩ := T.c.def_ 0 (d := d_is_amid) rfl
  refine ⟨fd, F.ok sc_is_amid (by walk_at "g94len") (fun cdv A outer st H vs Q E hr h => ?_), F⟩
  · obtain ⟨v, a, b, rfl, k⟩ := h
    refine ⟨_, PSs.nox (pss_cons (ps_if (PW.pt (pw_or (pt_not (pt_val (pe_callB call_isi (by rfl) (free_isinstance T) (by decide +kernel) (pa_cons (pv 0) (pa_cons (pe_bltn (v := .ty "int") (by rfl) (free_int T) (by decide +kernel) rfl) pa_nil))))) (pw_or1 (pt_val (pe_callB call_isi (by rfl) (free_isinstance T) (by decide +kernel) (pa_cons (pv 0) (pa_cons (pe_bltn (v := .ty "bool") (by rfl) (free_bool T) (by decide +kernel) rfl) pa_nil))))))) (pss_one (ps_ret pe_bl)) pss_nil)
        (pss_one (ps_ret (pe_chain op_le op_le (pv 1) (pv 0) (pv 2))))), ?_⟩
    rcases k with ⟨n, rfl, k⟩ | ⟨t, rfl, k⟩ | ⟨⟨u, h1, h2⟩, k⟩
    · walk_at "rds"
      walk_at "ri" <;> intro c1
      · walk_at "rds"
        rw [show decide (a ≤ n ∧ n ≤ b) = decide (n ≤ b) from decide_eq_decide.mpr ⟨fun q => q.2, fun q => ⟨c1, q⟩⟩] at k
        exact k
      · rw [decide_eq_false (fun q : a ≤ n ∧ n ≤ b => c1 q.1)] at k
        exact k
    · walk_at "rds"
      exact k
    · refine ⟨_, rfl, _, _, _, _, false, rfl, .ty _, h1, h2, ?_⟩
      walk_at "rds"
      exact k
def WorthSays (K : PySem.W.Frag) (H : Hp) (v : V) (b : Bool) : Prop := (∃ n : Int, v = .int n ∧ b = decide (0 ≤ n ∧ n ≤ 1000000000)) ∨ (∃ t, v = .bl t ∧ b = false) ∨ (IsA K H v "int" false ∧ b = false)
def spWorth (K : PySem.W.Frag) : Sp := fun vs H Q _ => ∃ (v : V) (b : Bool), vs = [v] ∧ WorthSays K H v b ∧ Q (.bl b) H
theorem ok_is_worth (T : Txt K mg) : ∃ fd, FnOk P w K mg base CX0 2 (He.fAd K ("is_worth", none)) fd ["thing"] (spWorth K) ∧ FunD K "is_worth" "is_worth" (defArgs s_is_worth) (defBody s_is_worth) (defScope s_is_worth) [] [] (He.fAd K ("is_worth", none)) fd := by
  obtain ⟨fd, F⟩ := T.c.def_ 3 (d := d_is_worth) rfl
  obtain ⟨fd_is_amid, G_is_amid, F_is_amid⟩ := ok_is_amid (P := P) (w := w) (base := base) T
  have kp_is_amid := F_is_amid.kp
  have b_is_amid : Binds K fd_is_amid ["thing", "least", "most"] [] := FunD.bindsN F_is_amid (fun _ _ _ _ _ _ us hl => match us, hl with | [_, _, _], _ => rfl)
  obtain ⟨t_MOST, g_MOST⟩ := int_MOST T
  refine ⟨fd, F.ok sc_is_worth (by walk_at "g94len") (fun cdv A outer st H vs Q E hr h => ?_), F⟩
  · obtain ⟨v, b, rfl, hs, k⟩ := h
    refine ⟨_, PSs.nox (pss_one (ps_ret (pe_call G_is_amid (hr.mono (by decide)) rfl (glo_is_amid T) kp_is_amid b_is_amid .nil pass0 (pa_cons (pv 0) (pa_cons pe_int (pa_cons (pe_glob (v := .int 1000000000) rfl g_MOST ⟨_, rfl⟩) pa_nil)))))), ?_⟩
    rcases hs with ⟨n, rfl, rfl⟩ | ⟨t, rfl, rfl⟩ | ⟨h, rfl⟩
    · exact ⟨_, rfl, _, _, _, rfl, .inl ⟨n, rfl, k⟩⟩
    · exact ⟨_, rfl, _, _, _, rfl, .inr (.inl ⟨t, rfl, k⟩)⟩
    · exact ⟨_, rfl, _, _, _, rfl, .inr (.inr ⟨h, k⟩)⟩
def LampSays (K : PySem.W.Frag) (H : Hp) (v : V) (b : Bool) : Prop := (∃ l : List Nat, v = .str (SX.S l) ∧ l.length ≤ 1000 ∧ b = lampB l) ∨ (IsA K H v "str" false ∧ b = false)
def spLamp (K : PySem.W.Frag) : Sp := fun vs H Q _ => ∃ (v : V) (b : Bool), vs = [v] ∧ LampSays K H v b ∧ Q (.bl b) H
theorem take_all {P : Nat → Bool} {l : List Nat} {i : Nat} {c : Nat} (h : (l.take i).all P = true) (hc : l[i]? = some c) (hp : P c = true) : (l.take (i + 1)).all P = true := by
  rw [List.take_add_one, hc, List.all_append, h]
  simpa using hp
theorem ok_is_lamp (T : Txt K mg) : ∃ fd, FnOk P w K mg base CX0 1 (He.fAd K ("is_lamp", none)) fd ["thing"] (spLamp K) ∧ FunD K "is_lamp" "is_lamp" (defArgs s_is_lamp) (defBody s_is_lamp) (defScope s_is_lamp) [] [] (He.fAd K ("is_lamp", none)) fd := by
  obtain ⟨fd, F⟩ := T.c.def_ 1 (d := d_is_lamp) rfl
  obtain ⟨t_LETTERS, g_LETTERS⟩ := str_LETTERS T
  refine ⟨fd, F.ok sc_is_lamp (by walk_at "g94len") (fun cdv A outer st H vs Q E hr h => ?_), F⟩
  · obtain ⟨v, b, rfl, hs, k⟩ := h
    refine ⟨_, PSs.nox (C8.pss_cut (ps_if (PW.pt (pw_or (pt_not (pt_val (pe_callB call_isi (by rfl) (free_isinstance T) (by decide +kernel) (pa_cons (pv 0) (pa_cons (pe_bltn (v := .ty "str") (by rfl) (free_str T) (by decide +kernel) rfl) pa_nil))))) (pw_or1 (pt_not (pt_chain op_le op_le pe_int (pe_callB call_len_str (by rfl) (free_len T) (by decide +kernel) (pa_cons (pv 0) pa_nil)) pe_int))))) (pss_one (ps_ret pe_bl)) pss_nil)
        (pss_cons (ps_for PassesOwn.never rfl (pi_str (pv 0)) (pg_name (i := 1) sc_is_lamp.nd rfl (Or.inl rfl)) (pss_one (ps_if (pt_cmpR op_notIn_sign (pv 1) (pe_glob (v := .str "abcdefghijklmnopqrstuvwxyz") rfl g_LETTERS ⟨_, rfl⟩) rfl) (pss_one (ps_ret pe_bl)) pss_nil)))
        (pss_one (ps_ret pe_bl)))), ?_⟩
    rcases hs with ⟨l, rfl, hl, rfl⟩ | ⟨⟨u, h1, h2⟩, rfl⟩
    · have hsz : (SX.S l).length ≤ sizeLine := by
        rw [len_S]
        exact small_size (by omega)
      refine ⟨fun σ' H' => σ' = [some (.str (SX.S l)), none] ∧ H' = H ∧ 1 ≤ l.length ∧ l.length ≤ 8, ?_, ?_⟩
      · walk_at "rds"
        walk_at "ri" <;> intro c1
        · walk_at "rds"
          walk_at "ri" <;> intro c2
          · rw [len_S] at c1 c2
            unfold lampB at k
            rw [decide_eq_false (show ¬ l.length ≤ 8 by omega), Bool.and_false, Bool.false_and] at k
            walk_at "rds"
            exact k
          · rw [len_S] at c1 c2
            exact ⟨rfl, rfl, by omega, by omega⟩
        · rw [len_S] at c1
          unfold lampB at k
          rw [decide_eq_false (show ¬ 1 ≤ l.length by omega), Bool.false_and, Bool.false_and] at k
          walk_at "rds"
          exact k
      rintro σ' H' ⟨rfl, rfl, l1, l2⟩
      unfold lampB at k
      rw [decide_eq_true l1, decide_eq_true l2, Bool.true_and, Bool.true_and] at k
      refine ⟨_, rfl, _, rfl, for_text (l := l) (fun i σ' H2 => ∃ v, σ' = [some (.str (SX.S l)), v] ∧ H2 = H' ∧ (l.take i).all (fun c => decide (c ∈ letters.cps.toList)) = true) ⟨_, rfl, rfl, rfl⟩ ?_ ?_⟩
      · rintro i c σ' H2 hc ⟨v, rfl, rfl, ha⟩
        refine ⟨_, rfl, c, _, rfl, rfl, _, rfl, ?_⟩
        refine iteND (fun hn => ?_) (fun hm => ?_)
        · rw [show (l.all fun c => decide (c ∈ letters.cps.toList)) = false from by
            rw [List.all_eq_false]
            exact ⟨c, List.mem_of_getElem? hc, by rw [decide_eq_true_eq]; exact hn⟩] at k
          exact k
        · exact ⟨_, rfl, rfl, take_all ha hc (decide_eq_true hm)⟩
      rintro σ' H2 ⟨v, rfl, rfl, ha⟩
      rw [List.take_length] at ha
      rw [ha] at k
      exact k
    · refine ⟨fun _ _ => False, ?_, fun _ _ q => q.elim⟩
      refine ⟨_, rfl, _, _, _, _, false, rfl, .ty _, h1, h2, ?_⟩
      walk_at "rds"
      exact k
def sides : List Str := ["blue", "bright", "green", "pan", "red", "tilt"]
def sideB (d : PyData) : Bool := (sides.map PyData.str).any fun z => PyData.eqv z d
theorem ty_tup {K : PySem.W.Frag} {H : Hp} {a : Addr} {xs : List V} (h : SqT K H a xs) : TyX K H (.ref a) (.type "tuple") := by
  rcases h with (q | ⟨o, q⟩) | ⟨o, its, n, q1, q2, _⟩
  · exact .base (.tup q)
  · exact .fTuple q
  · exact .kTuple q1 q2
def dstr (xs : List Str) : List PyData := xs.map PyData.str
theorem dp_strs {K : PySem.W.Frag} {H : Hp} : ∀ xs : List Str, DpAll K H (xs.map V.str) (dstr xs)
  | [] => .nil
  | x :: r => .cons (.str x) (dp_strs r)
/-- what is_slot is asked of -/
def SlotSays (K : PySem.W.Frag) (H : Hp) (v : V) (b : Bool) : Prop :=
  (IsA K H v "tuple" false ∧ b = false) ∨ (∃ p xs, v = .ref p ∧ SqT K H p xs ∧ xs.length ≠ 2 ∧ xs.length ≤ 1000 ∧ b = false) ∨
  (∃ p u w, v = .ref p ∧ SqT K H p [u, w] ∧ IsA K H u "str" false ∧ b = false) ∨
  (∃ p l w d, v = .ref p ∧ SqT K H p [.str (SX.S l), w] ∧ l.length ≤ 1000 ∧ Dp K H w d ∧ SeqAt.shaped d = true ∧ b = (lampB l && sideB d))
def spSlot (K : PySem.W.Frag) : Sp := fun vs H Q _ => ∃ (v : V) (b : Bool), vs = [v] ∧ SlotSays K H v b ∧ Q (.bl b) H
theorem ok_is_slot (T : Txt K mg) : ∃ fd, FnOk P w K mg base CX0 2 (He.fAd K ("is_slot", none)) fd ["thing"] (spSlot K) ∧ FunD K "is_slot" "is_slot" (defArgs s_is_slot) (defBody s_is_slot) (defScope s_is_slot) [] [] (He.fAd K ("is_slot", none)) fd := by
  obtain ⟨fd, F⟩ := T.c.def_ 2 (d := d_is_slot) rfl
  obtain ⟨fd_is_lamp, G_is_lamp, F_is_lamp⟩ := ok_is_lamp (P := P) (w := w) (base := base) T
  have kp_is_lamp := F_is_lamp.kp
  have b_is_lamp : Binds K fd_is_lamp ["thing"] [] := FunD.bindsN F_is_lamp (fun _ _ _ _ _ _ us hl => match us, hl with | [_], _ => rfl)
  refine ⟨fd, F.ok sc_is_slot (by walk_at "g94len") (fun cdv A outer st H vs Q E hr h => ?_), F⟩
  · obtain ⟨v, b, rfl, hs, k⟩ := h
    refine ⟨_, PSs.nox (pss_cons (ps_if (PW.pt (pw_or (pt_not (pt_val (pe_callB call_isi (by rfl) (free_isinstance T) (by decide +kernel) (pa_cons (pv 0) (pa_cons (pe_bltn (v := .ty "tuple") (by rfl) (free_tuple T) (by decide +kernel) rfl) pa_nil))))) (pw_or1 (pt_cmpR op_ne (pe_callB call_len_seq (by rfl) (free_len T) (by decide +kernel) (pa_cons (pv 0) pa_nil)) pe_int (nomark _))))) (pss_one (ps_ret pe_bl)) pss_nil)
        (pss_one (ps_ret (pe_and (pe_call G_is_lamp (hr.mono (by decide)) rfl (glo_is_lamp T) kp_is_lamp b_is_lamp .nil pass0 (pa_cons (pe_ix ix_tup (pv 0) pe_int (fun _ _ => rfl)) pa_nil)) (pe_one (pe_cmpR (op_inTD (units65 hr)) (pe_ix ix_tup (pv 0) pe_int (fun _ _ => rfl)) (pe_glob (v := .ref (He.ga K "SIDES")) rfl (glo_SIDES T) rfl) (by with_unfolding_all rfl))))))), ?_⟩
    rcases hs with ⟨⟨u, h1, h2⟩, rfl⟩ | ⟨p, xs, rfl, hT, hn, hm, rfl⟩ | ⟨p, u, w, rfl, hT, ⟨t, h1, h2⟩, rfl⟩ | ⟨p, l, w, d, rfl, hT, hl, hd, hsh, rfl⟩
    · refine ⟨_, rfl, _, _, _, _, false, rfl, .ty _, h1, h2, ?_⟩
      walk_at "rds"
      exact k
    · refine ⟨_, rfl, _, _, _, _, true, rfl, .ty _, ty_tup hT, kit_ty (by decide +kernel), ?_⟩
      walk_at "rds"
      refine ⟨p, xs, rfl, .inr hT, ?_⟩
      walk_at "rds"
      refine iteNV (fun _ => ?_) (fun e => absurd e (by omega))
      exact k
    · refine ⟨_, rfl, _, _, _, _, true, rfl, .ty _, ty_tup hT, kit_ty (by decide +kernel), ?_⟩
      walk_at "rds"
      refine ⟨p, _, rfl, .inr hT, ?_⟩
      walk_at "rds"
      refine ⟨p, _, _, _, rfl, rfl, hT, rfl, u, _, rfl, .inr ⟨⟨t, h1, h2⟩, rfl⟩, ?_⟩
      exact ⟨_, rfl, k⟩
    · refine ⟨_, rfl, _, _, _, _, true, rfl, .ty _, ty_tup hT, kit_ty (by decide +kernel), ?_⟩
      walk_at "rds"
      refine ⟨p, _, rfl, .inr hT, ?_⟩
      walk_at "rds"
      refine ⟨p, _, _, _, rfl, rfl, hT, rfl, _, _, rfl, .inl ⟨l, rfl, hl, rfl⟩, ?_⟩
      refine ⟨_, rfl, iteB (fun e => ?_) (fun e => ?_)⟩
      · rw [e, Bool.true_and] at k
        exact ⟨_, rfl, p, _, _, _, rfl, rfl, hT, rfl, _, _, d, dstr sides, rfl, tup_SIDES T _, hd, dp_strs sides, hsh, by decide +kernel, k⟩
      · rw [e, Bool.false_and] at k
        exact k
theorem sign_at {z : Str} {n : Nat} (hz : z.length = n) {k : Int} (h0 : 0 ≤ k) (h1 : k < n) : ∃ c, atI z.cps.toList k = some c := by
  have hl : k.toNat < z.cps.toList.length := by
    have : z.cps.toList.length = n := by
      rw [← hz]
      simp [Str.length]
    omega
  obtain ⟨j, rfl⟩ : ∃ j : Nat, k = j := ⟨k.toNat, by omega⟩
  exact ⟨_, atI_nat (List.getElem?_eq_getElem (by simpa using hl))⟩

theorem ix_some {z : Str} {N : Nat} {k : Int} {H : Hp} {Q : VK} (hz : z.length = N) (hs : N ≤ 100000) (h0 : 0 ≤ k) (h1 : k < N) (q : ∀ c, Q (.str (SX.S [c])) H) : rIxS (.str z) (.int k) H Q := by
  obtain ⟨c, hc⟩ := sign_at hz h0 h1
  exact ⟨z, k, c, rfl, rfl, by rw [hz]; exact small_size hs, hc, q c⟩
def spSign : Sp := fun vs H Q _ => ∃ n : Int, vs = [.int n] ∧ ∀ c : Nat, Q (.str (SX.S [c])) H
theorem ok_l_sign (T : Txt K mg) : ∃ fd, FnOk P w K mg base CX0 1 (He.fAd K ("_law_sign", none)) fd ["_law_number"] spSign ∧ FunD K "_law_sign" "_law_sign" (defArgs s_l_sign) (defBody s_l_sign) (defScope s_l_sign) [] [] (He.fAd K ("_law_sign", none)) fd := by
  obtain ⟨fd, F⟩ := T.c.def_ 4 (d := d_l_sign) rfl
  refine ⟨fd, F.ok sc_l_sign (by walk_at "g94len") (fun cdv A outer st H vs Q E hr h => ?_), F⟩
  · obtain ⟨n, rfl, k⟩ := h
    refine ⟨_, PSs.nox (pss_cons (ps_set (i := 1) sc_l_sign.nd rfl (Or.inl rfl) pe_str)
        (pss_cons (ps_set (i := 1) sc_l_sign.nd rfl (Or.inl rfl) (pe_op op_add_str (pv 1) pe_str))
        (pss_one (ps_ret (pe_ix ix_str (pv 1) (pe_op op_mod (pv 0) pe_int) (fun _ _ => rfl)))))), ?_⟩
    refine ⟨_, rfl, _, _, rfl, rfl, small_size (by decide +kernel), ?_⟩
    walk_at "rds"
    exact ix_some (N := 96) (by decide +kernel) (by decide) (by omega) (by omega) k
def spWord : Sp := fun vs H Q _ => ∃ n : Int, vs = [.int n] ∧ 0 ≤ n ∧ n < 2147483629 ∧ ∀ l : List Nat, l.length ≤ 20 → Q (.str (SX.S l)) H
theorem ok_l_word (T : Txt K mg) : ∃ fd, FnOk P w K mg base CX0 2 (He.fAd K ("_law_word", none)) fd ["_law_mixed"] spWord ∧ FunD K "_law_word" "_law_word" (defArgs s_l_word) (defBody s_l_word) (defScope s_l_word) [] [] (He.fAd K ("_law_word", none)) fd := by
  obtain ⟨fd, F⟩ := T.c.def_ 5 (d := d_l_word) rfl
  obtain ⟨fd_l_sign, G_l_sign, F_l_sign⟩ := ok_l_sign (P := P) (w := w) (base := base) T
  have kp_l_sign := F_l_sign.kp
  have b_l_sign : Binds K fd_l_sign ["_law_number"] [] := FunD.bindsN F_l_sign (fun _ _ _ _ _ _ us hl => match us, hl with | [_], _ => rfl)
  refine ⟨fd, F.ok sc_l_word (by walk_at "g94len") (fun cdv A outer st H vs Q E hr h => ?_), F⟩
  · obtain ⟨n, rfl, n0, n1, k⟩ := h
    refine ⟨_, PSs.nox (pss_cons (ps_set (i := 1) sc_l_word.nd rfl (Or.inl rfl) pe_str)
        (pss_cons (ps_set (i := 2) sc_l_word.nd rfl (Or.inl rfl) (pe_op op_mod (pv 0) pe_int))
        (pss_cons (ps_set (i := 3) sc_l_word.nd rfl (Or.inl rfl) pe_str)
        (pss_cons (ps_for PassesOwn.never rfl (pi_range1 rfl (free_range T) (pa_cons (pv 2) pa_nil)) (pg_name (i := 4) sc_l_word.nd rfl (Or.inl rfl)) (pss_one (ps_set (i := 3) sc_l_word.nd rfl (Or.inl rfl) (pe_op op_add_str (pv 3) (pe_ix ix_str (pv 1) (pe_op op_mod (pe_op op_fdivW (pe_op op_mul (pe_op op_fdiv (pv 0) pe_int) (pe_op op_add (pe_op op_mul pe_int (pv 4)) pe_int)) (pe_op op_add (pv 4) pe_int)) pe_int) (fun _ _ => rfl))))))
        (C8.pss_cut (ps_if (PW.pt (pw_and (pt_cmpR op_gt (pv 2) pe_int (nomark _)) (pw_and1 (pt_cmpR op_eq (pe_op op_mod (pe_op op_fdiv (pv 0) pe_int) pe_int) pe_int (nomark _))))) (pss_cons (ps_set (i := 5) sc_l_word.nd rfl (Or.inl rfl) (pe_op op_mod (pe_op op_fdiv (pv 0) pe_int) (pv 2)))
        (pss_one (ps_set (i := 3) sc_l_word.nd rfl (Or.inl rfl) (pe_op op_add_str (pe_op op_add_str (pe_slice C8.sl_txt (pv 3) po_none (po_some (pv 5))) (pe_call G_l_sign (hr.mono (by decide)) rfl (glo__law_sign T) kp_l_sign b_l_sign .nil pass0 (pa_cons (pe_op op_fdiv (pv 0) pe_int) pa_nil))) (pe_slice C8.sl_txt (pv 3) (po_some (pe_op op_add (pv 5) pe_int)) po_none))))) pss_nil)
        (pss_one (ps_ret (pv 3)))))))), ?_⟩
    walk_at "rds"
    have hz : 0 ≤ n % 10 ∧ n % 10 < 10 := by omega
    refine for_range (lo := 0) (n := (n % 10).toNat) (fun i σ' H' => ∃ (l : List Nat) (v : Option V), σ' = [some (.int n), some (.str "abcdefghijklmnopqrstuvwxyz"), some (.int (n % 10)), some (.str (SX.S l)), v, none] ∧ l.length ≤ i ∧ H' = H) ⟨[], _, rfl, Nat.le_refl _, rfl⟩ ?_ ?_
    · rintro i σ' H' hi ⟨l, v, rfl, hl, rfl⟩
      walk_at "rds"
      refine ix_some (N := 26) (by decide +kernel) (by decide) (Int.emod_nonneg _ (by decide)) (Int.emod_lt_of_pos _ (by decide)) fun c => ?_
      refine ⟨_, _, rfl, rfl, ?_, l ++ [c], some (V.int (0 + (i : Int))), ?_, ?_, rfl⟩
      · rw [len_S, len_S]
        exact small_size (by show l.length + 1 ≤ 100000; omega)
      · rw [SX.S_cat]
        rfl
      · rw [List.length_append]
        show l.length + 1 ≤ i + 1
        omega
    rintro σ' H' ⟨l, v, rfl, hl, rfl⟩
    have hl2 : l.length ≤ 10 := by omega
    have hsz : (SX.S l).length ≤ sizeLine := by
      rw [len_S]
      exact small_size (by omega)
    refine ⟨fun σ' H2 => ∃ (l : List Nat) (u : Option V), σ' = [some (.int n), some (.str "abcdefghijklmnopqrstuvwxyz"), some (.int (n % 10)), some (.str (SX.S l)), v, u] ∧ l.length ≤ 20 ∧ H2 = H', ?_, ?_⟩
    · walk_at "rds"
      walk_at "ri" <;> intro c1
      · walk_at "rds"
        walk_at "ri" <;> intro c2
        · walk_at "rds"
          have h0 : 0 ≤ n / 30 % (n % 10) := Int.emod_nonneg _ (by omega)
          walk_at "nf"
          generalize n / 30 % (n % 10) = x at h0 ⊢
          rw [SX.slice_to h0]
          intro c
          refine ⟨_, _, rfl, rfl, ?_, ?_⟩
          · rw [len_S, len_S, List.length_take]
            exact small_size (by show min x.toNat l.length + 1 ≤ 100000; omega)
          rw [SX.S_cat]
          refine ⟨_, rfl, _, rfl, _, _, rfl, rfl, _, rfl, SX.S l, rfl, hsz, ?_⟩
          rw [SX.slice_from (by omega)]
          refine ⟨_, _, rfl, rfl, ?_, l.take x.toNat ++ [c] ++ l.drop (x + 1).toNat, some (V.int x), ?_, ?_, rfl⟩
          · rw [len_S, len_S, List.length_append, List.length_take, List.length_drop]
            exact small_size (by show min x.toNat l.length + 1 + (l.length - (x + 1).toNat) ≤ 100000; omega)
          · rw [SX.S_cat]
            rfl
          · rw [List.length_append, List.length_append, List.length_take, List.length_drop]
            show min x.toNat l.length + 1 + (l.length - (x + 1).toNat) ≤ 20
            omega
        · exact ⟨l, _, rfl, by omega, rfl⟩
      · exact ⟨l, _, rfl, by omega, rfl⟩
    rintro σ' H2 ⟨l, u, rfl, hl, rfl⟩
    exact ⟨_, rfl, k l hl⟩
def spLLamp : Sp := fun vs H Q _ => ∃ l : List Nat, vs = [.str (SX.S l)] ∧ l.length ≤ 1000 ∧ Q (.bl (lampB l)) H
theorem ok_l_lamp (T : Txt K mg) : ∃ fd, FnOk P w K mg base CX0 1 (He.fAd K ("_law_lamp", none)) fd ["_law_word_here"] spLLamp ∧ FunD K "_law_lamp" "_law_lamp" (defArgs s_l_lamp) (defBody s_l_lamp) (defScope s_l_lamp) [] [] (He.fAd K ("_law_lamp", none)) fd := by
  obtain ⟨fd, F⟩ := T.c.def_ 6 (d := d_l_lamp) rfl
  refine ⟨fd, F.ok sc_l_lamp (by walk_at "g94len") (fun cdv A outer st H vs Q E hr h => ?_), F⟩
  · obtain ⟨l, rfl, hl, k⟩ := h
    refine ⟨_, PSs.nox (C8.pss_cut (ps_if (PW.pt (pw_or (pt_cmpR op_lt (pe_callB call_len_str (by rfl) (free_len T) (by decide +kernel) (pa_cons (pv 0) pa_nil)) pe_int (nomark _)) (pw_or1 (pt_cmpR op_gt (pe_callB call_len_str (by rfl) (free_len T) (by decide +kernel) (pa_cons (pv 0) pa_nil)) pe_int (nomark _))))) (pss_one (ps_ret pe_bl)) pss_nil)
        (pss_cons (ps_for PassesOwn.never rfl (pi_str (pv 0)) (pg_name (i := 1) sc_l_lamp.nd rfl (Or.inl rfl)) (pss_one (ps_if (pt_cmpR op_notIn_sign (pv 1) pe_str rfl) (pss_one (ps_ret pe_bl)) pss_nil)))
        (pss_one (ps_ret pe_bl)))), ?_⟩
    have hsz : (SX.S l).length ≤ sizeLine := by
      rw [len_S]
      exact small_size (by omega)
    refine ⟨fun σ' H' => σ' = [some (.str (SX.S l)), none] ∧ H' = H ∧ 1 ≤ l.length ∧ l.length ≤ 8, ?_, ?_⟩
    · walk_at "rds"
      walk_at "ri" <;> intro c1
      · rw [len_S] at c1
        unfold lampB at k
        rw [decide_eq_false (show ¬ 1 ≤ l.length by omega), Bool.false_and, Bool.false_and] at k
        walk_at "rds"
        exact k
      walk_at "rds"
      walk_at "ri" <;> intro c2
      · rw [len_S] at c1 c2
        unfold lampB at k
        rw [decide_eq_false (show ¬ l.length ≤ 8 by omega), Bool.and_false, Bool.false_and] at k
        walk_at "rds"
        exact k
      · rw [len_S] at c1 c2
        exact ⟨rfl, rfl, by omega, by omega⟩
    rintro σ' H' ⟨rfl, rfl, l1, l2⟩
    unfold lampB at k
    rw [decide_eq_true l1, decide_eq_true l2, Bool.true_and, Bool.true_and] at k
    refine ⟨_, rfl, _, rfl, for_text (l := l) (fun i σ' H2 => ∃ v, σ' = [some (.str (SX.S l)), v] ∧ H2 = H' ∧ (l.take i).all (fun c => decide (c ∈ letters.cps.toList)) = true) ⟨_, rfl, rfl, rfl⟩ ?_ ?_⟩
    · rintro i c σ' H2 hc ⟨v, rfl, rfl, ha⟩
      refine ⟨_, rfl, c, _, rfl, rfl, _, rfl, ?_⟩
      refine iteND (fun hn => ?_) (fun hm => ?_)
      · rw [show (l.all fun c => decide (c ∈ letters.cps.toList)) = false from by
          rw [List.all_eq_false]
          exact ⟨c, List.mem_of_getElem? hc, by rw [decide_eq_true_eq]; exact hn⟩] at k
        exact k
      · exact ⟨_, rfl, rfl, take_all ha hc (decide_eq_true hm)⟩
    rintro σ' H2 ⟨v, rfl, rfl, ha⟩
    rw [List.take_length] at ha
    rw [ha] at k
    exact k
theorem side_at {K : PySem.W.Frag} {p : Addr} {k : Int} (h0 : 0 ≤ k) (h1 : k < 14) :
    ∃ (w : V) (d : PyData), atI ([V.str "blue", .str "bright", .str "green", .str "pan", .str "red", .str "tilt"] ++ [V.str "", .str "Bright", .str "brigh", .str "pan ", .ref p, .int 5, .non, .bl true]) k = some w ∧ (∀ H : Hp, SqL K H p [.str "pan"] → Dp K H w d) ∧ SeqAt.shaped d = true ∧ sideB d = decide (k < 6) := by
  rcases (by omega : k = 0 ∨ k = 1 ∨ k = 2 ∨ k = 3 ∨ k = 4 ∨ k = 5 ∨ k = 6 ∨ k = 7 ∨ k = 8 ∨ k = 9 ∨ k = 10 ∨ k = 11 ∨ k = 12 ∨ k = 13) with rfl | rfl | rfl | rfl | rfl | rfl | rfl | rfl | rfl | rfl | rfl | rfl | rfl | rfl
  all_goals first
    | exact ⟨_, _, rfl, fun _ _ => .str _, by decide +kernel, by decide +kernel⟩
    | exact ⟨_, _, rfl, fun _ _ => .int _, by decide +kernel, by decide +kernel⟩
    | exact ⟨_, _, rfl, fun _ _ => .non, by decide +kernel, by decide +kernel⟩
    | exact ⟨_, _, rfl, fun _ _ => .bl _, by decide +kernel, by decide +kernel⟩
    | exact ⟨_, _, rfl, fun _ hp => .lst hp (.cons (.str _) .nil), by decide +kernel, by decide +kernel⟩
def spSide (K : PySem.W.Frag) : Sp := fun vs H Q _ => ∃ n : Int, vs = [.int n] ∧ ∀ (w : V) (d : PyData) (H' : Hp), Same H H' → (∀ H2, Same H' H2 → Dp K H2 w d) → SeqAt.shaped d = true → sideB d = decide (n % 14 < 6) → Q w H'
theorem ok_l_side (T : Txt K mg) : ∃ fd, FnOk P w K mg base CX0 1 (He.fAd K ("_law_side", none)) fd ["_law_number"] (spSide K) ∧ FunD K "_law_side" "_law_side" (defArgs s_l_side) (defBody s_l_side) (defScope s_l_side) [] [] (He.fAd K ("_law_side", none)) fd := by
  obtain ⟨fd, F⟩ := T.c.def_ 7 (d := d_l_side) rfl
  refine ⟨fd, F.ok sc_l_side (by walk_at "g94len") (fun cdv A outer st H vs Q E hr h => ?_), F⟩
  · obtain ⟨n, rfl, k⟩ := h
    refine ⟨_, PSs.nox (pss_cons (ps_set (i := 1) sc_l_side.nd rfl (Or.inl rfl) (pe_lst (pa_cons pe_str (pa_cons pe_str (pa_cons pe_str (pa_cons pe_str (pa_cons pe_str (pa_cons pe_str pa_nil))))))))
        (pss_one (ps_ret (pe_ix ix_list (pe_op op_cat (pv 1) (pe_lst (pa_cons pe_str (pa_cons pe_str (pa_cons pe_str (pa_cons pe_str (pa_cons (pe_lst (pa_cons pe_str pa_nil)) (pa_cons pe_int (pa_cons pe_non (pa_cons pe_bl pa_nil)))))))))) (pe_op op_mod (pv 0) pe_int) (fun _ _ => rfl))))), ?_⟩
    walk_at "rds"
    intro p hp
    walk_at "rds"
    intro p1 hp1
    walk_at "rds"
    intro p2 hp2
    have s1 := ((Same.refl H).new (o := HO.lst [.str "blue", .str "bright", .str "green", .str "pan", .str "red", .str "tilt"]) hp).new (o := HO.lst [.str "pan"]) hp1
    have s2 := s1.new (o := HO.lst [.str "", .str "Bright", .str "brigh", .str "pan ", .ref p1, .int 5, .non, .bl true]) hp2
    have e1 : p1 ≠ p2 := ne_of_none upd_same hp2
    have e0 : p ≠ p1 := ne_of_none upd_same hp1
    have e2 : p ≠ p2 := ne_of_none (show upd (upd H p _) p1 _ p = some _ by rw [upd_ne e0, upd_same]) hp2
    refine ⟨p, p2, _, _, rfl, rfl, by rw [upd_ne e2, upd_ne e0, upd_same], by rw [upd_same], ?_, fun p3 hp3 => ?_⟩
    · exact small_size (show (6 + 8 : Nat) ≤ 100000 by decide)
    have s3 := s2.new (o := HO.lst ([.str "blue", .str "bright", .str "green", .str "pan", .str "red", .str "tilt"] ++ [.str "", .str "Bright", .str "brigh", .str "pan ", .ref p1, .int 5, .non, .bl true])) hp3
    walk_at "rds"
    obtain ⟨w, d, h1, h2, h3, h4⟩ := side_at (K := K) (p := p1) (k := n % 14) (by omega) (by omega)
    refine ⟨p3, _, _, w, rfl, rfl, .of upd_same, h1, k w d _ s3 (fun H2 s => h2 H2 (s.seq (.of ?_))) h3 h4⟩
    rw [upd_ne (ne_of_none (by rw [upd_ne e1, upd_same]) hp3), upd_ne e1, upd_same]
def spIs : Sp := fun vs H Q _ => ∃ a b : Bool, vs = [.bl a, .bl b] ∧ Q (.bl (decide (a = b))) H
theorem ok_l_is (T : Txt K mg) : ∃ fd, FnOk P w K mg base CX0 1 (He.fAd K ("_law_is", none)) fd ["_law_found", "_law_due"] spIs ∧ FunD K "_law_is" "_law_is" (defArgs s_l_is) (defBody s_l_is) (defScope s_l_is) [] [] (He.fAd K ("_law_is", none)) fd := by
  obtain ⟨fd, F⟩ := T.c.def_ 8 (d := d_l_is) rfl
  refine ⟨fd, F.ok sc_l_is (by walk_at "g94len") (fun cdv A outer st H vs Q E hr h => ?_), F⟩
  · obtain ⟨a, b, rfl, k⟩ := h
    refine ⟨_, PSs.nox (pss_one (ps_ret (pe_and (pe_callB call_isi (by rfl) (free_isinstance T) (by decide +kernel) (pa_cons (pv 0) (pa_cons (pe_bltn (v := .ty "bool") (by rfl) (free_bool T) (by decide +kernel) rfl) pa_nil))) (pe_one (pe_cmpR op_eq (pv 0) (pv 1) (nomark _)))))), ?_⟩
    walk_at "rds"
    cases a <;> cases b <;> exact k
theorem ite_and {a b : Bool} {Q : VK} {H : Hp} {T : Prop} (h : Q (.bl b) H → T) (k : Q (.bl (a && b)) H) : if a = true then T else Q (.bl false) H := by
  cases a with
  | true => exact iteT (h k)
  | false => exact iteF k
def spGood (K : PySem.W.Frag) : Sp := fun vs H Q _ => ∃ c i : Int, vs = [.int c, .int i] ∧ 0 ≤ i ∧ i ≤ 100 ∧ ∀ H' : Hp, Same H H' → Q (.bl true) H'
theorem ok_l_good (T : Txt K mg) : ∃ fd, FnOk P w K mg base CX0 3 (He.fAd K ("_law_good", none)) fd ["_law_cell", "_law_k"] (spGood K) ∧ FunD K "_law_good" "_law_good" (defArgs s_l_good) (defBody s_l_good) (defScope s_l_good) [] [] (He.fAd K ("_law_good", none)) fd := by
  obtain ⟨fd, F⟩ := T.c.def_ 9 (d := d_l_good) rfl
  obtain ⟨fd_l_word, G_l_word, F_l_word⟩ := ok_l_word (P := P) (w := w) (base := base) T
  have kp_l_word := F_l_word.kp
  have b_l_word : Binds K fd_l_word ["_law_mixed"] [] := FunD.bindsN F_l_word (fun _ _ _ _ _ _ us hl => match us, hl with | [_], _ => rfl)
  obtain ⟨fd_l_side, G_l_side, F_l_side⟩ := ok_l_side (P := P) (w := w) (base := base) T
  have kp_l_side := F_l_side.kp
  have b_l_side : Binds K fd_l_side ["_law_number"] [] := FunD.bindsN F_l_side (fun _ _ _ _ _ _ us hl => match us, hl with | [_], _ => rfl)
  obtain ⟨fd_l_lamp, G_l_lamp, F_l_lamp⟩ := ok_l_lamp (P := P) (w := w) (base := base) T
  have kp_l_lamp := F_l_lamp.kp
  have b_l_lamp : Binds K fd_l_lamp ["_law_word_here"] [] := FunD.bindsN F_l_lamp (fun _ _ _ _ _ _ us hl => match us, hl with | [_], _ => rfl)
  obtain ⟨fd_l_is, G_l_is, F_l_is⟩ := ok_l_is (P := P) (w := w) (base := base) T
  have kp_l_is := F_l_is.kp
  have b_l_is : Binds K fd_l_is ["_law_found", "_law_due"] [] := FunD.bindsN F_l_is (fun _ _ _ _ _ _ us hl => match us, hl with | [_, _], _ => rfl)
  obtain ⟨fd_is_worth, G_is_worth, F_is_worth⟩ := ok_is_worth (P := P) (w := w) (base := base) T
  have kp_is_worth := F_is_worth.kp
  have b_is_worth : Binds K fd_is_worth ["thing"] [] := FunD.bindsN F_is_worth (fun _ _ _ _ _ _ us hl => match us, hl with | [_], _ => rfl)
  obtain ⟨fd_is_lamp, G_is_lamp, F_is_lamp⟩ := ok_is_lamp (P := P) (w := w) (base := base) T
  have kp_is_lamp := F_is_lamp.kp
  have b_is_lamp : Binds K fd_is_lamp ["thing"] [] := FunD.bindsN F_is_lamp (fun _ _ _ _ _ _ us hl => match us, hl with | [_], _ => rfl)
  obtain ⟨fd_is_slot, G_is_slot, F_is_slot⟩ := ok_is_slot (P := P) (w := w) (base := base) T
  have kp_is_slot := F_is_slot.kp
  have b_is_slot : Binds K fd_is_slot ["thing"] [] := FunD.bindsN F_is_slot (fun _ _ _ _ _ _ us hl => match us, hl with | [_], _ => rfl)
  refine ⟨fd, F.ok sc_l_good (by walk_at "g94len") (fun cdv A outer st H vs Q E hr h => ?_), F⟩
  · obtain ⟨c, i, rfl, i0, i1, k⟩ := h
    refine ⟨_, PSs.nox (pss_cons (ps_set (i := 2) sc_l_good.nd rfl (Or.inl rfl) (pe_op op_mod (pe_op op_mul (pe_op op_add (pe_op op_mod (pe_op op_fdiv (pv 0) pe_int) (pe_powC (v := 1000000000000000000000000000000) (by rfl) (by decide +kernel))) pe_int) (pe_op op_add pe_int (pe_op op_mul (pe_op op_mul pe_int (pv 1)) (pv 1)))) pe_int))
        (pss_cons (ps_set (i := 3) sc_l_good.nd rfl (Or.inl rfl) (pe_call G_l_word (hr.mono (by decide)) rfl (glo__law_word T) kp_l_word b_l_word .nil pass0 (pa_cons (pv 2) pa_nil)))
        (pss_cons (ps_set (i := 4) sc_l_good.nd rfl (Or.inl rfl) (pe_call G_l_side (hr.mono (by decide)) rfl (glo__law_side T) kp_l_side b_l_side .nil pass0 (pa_cons (pe_op op_fdiv (pv 2) pe_int) pa_nil)))
        (pss_cons (ps_set (i := 5) sc_l_good.nd rfl (Or.inl rfl) (pe_call G_l_lamp (hr.mono (by decide)) rfl (glo__law_lamp T) kp_l_lamp b_l_lamp .nil pass0 (pa_cons (pv 3) pa_nil)))
        (pss_cons (ps_if (pt_not (pt_val (pe_call G_l_is (hr.mono (by decide)) rfl (glo__law_is T) kp_l_is b_l_is .nil pass0 (pa_cons (pe_call G_is_lamp (hr.mono (by decide)) rfl (glo_is_lamp T) kp_is_lamp b_is_lamp .nil pass0 (pa_cons (pv 3) pa_nil)) (pa_cons (pv 5) pa_nil))))) (pss_one (ps_ret pe_bl)) pss_nil)
        (C8.pss_cut (ps_set (i := 5) sc_l_good.nd rfl (Or.inl rfl) (pe_and (pv 5) (pe_one (pe_cmpR op_lt (pe_op op_mod (pe_op op_fdiv (pv 2) pe_int) pe_int) pe_int (nomark _)))))
        (C8.pss_cut (ps_if (PW.pt (pw_and (pt_cmpR op_eq (pe_op op_mod (pv 0) pe_int) pe_int (nomark _)) (pw_and1 (pt_cmpR op_isnot_bl (pe_call G_is_slot (hr.mono (by decide)) rfl (glo_is_slot T) kp_is_slot b_is_slot .nil pass0 (pa_cons (pe_lst (pa_cons (pv 3) (pa_cons (pv 4) pa_nil))) pa_nil)) pe_bl (nomark _))))) (pss_one (ps_ret pe_bl)) pss_nil)
        (C8.pss_cut (ps_if (pt_cmpR op_eq (pe_op op_mod (pv 0) pe_int) pe_int (nomark _)) (pss_one (ps_if (PW.pt (pw_or (pt_cmpR op_isnot_bl (pe_call G_is_slot (hr.mono (by decide)) rfl (glo_is_slot T) kp_is_slot b_is_slot .nil pass0 (pa_cons (pe_tup (pa_cons (pv 3) (pa_cons (pv 4) (pa_cons (pv 4) pa_nil)))) pa_nil)) pe_bl (nomark _)) (pw_or1 (pt_cmpR op_isnot_bl (pe_call G_is_slot (hr.mono (by decide)) rfl (glo_is_slot T) kp_is_slot b_is_slot .nil pass0 (pa_cons (pe_tup (pa_cons (pv 3) pa_nil)) pa_nil)) pe_bl (nomark _))))) (pss_one (ps_ret pe_bl)) pss_nil)) pss_nil)
        (pss_cons (ps_if (pt_not (pt_val (pe_call G_l_is (hr.mono (by decide)) rfl (glo__law_is T) kp_l_is b_l_is .nil pass0 (pa_cons (pe_call G_is_slot (hr.mono (by decide)) rfl (glo_is_slot T) kp_is_slot b_is_slot .nil pass0 (pa_cons (pe_tup (pa_cons (pv 3) (pa_cons (pv 4) pa_nil))) pa_nil)) (pa_cons (pv 5) pa_nil))))) (pss_one (ps_ret pe_bl)) pss_nil)
        (pss_cons (ps_set (i := 6) sc_l_good.nd rfl (Or.inl rfl) (pe_op op_sub (pe_op op_mod (pe_op op_mul (pv 0) pe_int) (pe_op op_add (pe_op op_mul pe_int (pe_powC (v := 1000000000) (by rfl) (by decide +kernel))) pe_int)) (pe_op op_mul pe_int (pe_powC (v := 1000000000) (by rfl) (by decide +kernel)))))
        (pss_one (ps_ret (pe_call G_l_is (hr.mono (by decide)) rfl (glo__law_is T) kp_l_is b_l_is .nil pass0 (pa_cons (pe_call G_is_worth (hr.mono (by decide)) rfl (glo_is_worth T) kp_is_worth b_is_worth .nil pass0 (pa_cons (pv 6) pa_nil)) (pa_cons (pe_and (pe_cmpR op_le pe_int (pv 6) (nomark _)) (pe_one (pe_cmpR op_le (pv 6) (pe_powC (v := 1000000000) (by rfl) (by decide +kernel)) (nomark _)))) pa_nil))))))))))))))), ?_⟩
    have hp2 : 0 ≤ 7919 * i * i ∧ 7919 * i * i ≤ 7919000000 := by
      have h1 : 0 ≤ 7919 * i := by omega
      have h2 := Int.mul_nonneg h1 i0
      have h3 := Int.mul_le_mul (show 7919 * i ≤ 7919000 by omega) (show i ≤ 1000 by omega) i0 (by decide)
      omega
    walk_at "rds"
    intro l hl
    walk_at "nf"
    generalize (c / 5 % 1000000000000000000000000000000 + 1) * (48271 + 7919 * i * i) % 2147483629 = m
    walk_at "rds"
    intro w d H1 s1 hd hsh hside
    walk_at "rds"
    refine ⟨_, _, rfl, .inl ⟨l, rfl, by omega, rfl⟩, ?_⟩
    walk_at "rds"
    refine iteND (fun q => absurd rfl q) fun _ => ?_
    refine ⟨fun σ' H' => σ' = [some (.int c), some (.int i), some (.int m), some (.str (SX.S l)), some (w), some (.bl (lampB l && sideB d)), none] ∧ H' = H1, ?_, ?_⟩
    · rw [hside]
      refine ⟨_, rfl, _, rfl, iteB (fun e => ?_) (fun e => ?_)⟩
      · walk_at "rds"
        rw [e]
        exact ⟨rfl, rfl⟩
      · rw [e]
        exact ⟨rfl, rfl⟩
    rintro σ' H' ⟨rfl, rfl⟩
    generalize hdue : (lampB l && sideB d) = due
    refine ⟨fun σ' H2 => σ' = [some (.int c), some (.int i), some (.int m), some (.str (SX.S l)), some (w), some (.bl due), none] ∧ Same H' H2, ?_, ?_⟩
    · walk_at "rds"
      walk_at "ri" <;> intro c1
      · walk_at "rds"
        intro p hp
        refine ⟨_, _, rfl, .inl ⟨⟨_, .base (.lst upd_same), kit_ty (by decide +kernel)⟩, rfl⟩, ?_⟩
        walk_at "rds"
        exact (Same.refl _).new hp
      · exact ⟨rfl, .refl _⟩
    rintro σ' H2 ⟨rfl, s2⟩
    refine ⟨fun σ' H2 => σ' = [some (.int c), some (.int i), some (.int m), some (.str (SX.S l)), some (w), some (.bl due), none] ∧ Same H' H2, ?_, ?_⟩
    · walk_at "rds"
      walk_at "ri" <;> intro c1
      · walk_at "rds"
        intro p hp
        refine ⟨_, _, rfl, .inr (.inl ⟨p, _, rfl, .of upd_same, (by show (3 : Nat) ≠ 2; decide), (by show (3 : Nat) ≤ 1000; decide), rfl⟩), ?_⟩
        walk_at "rds"
        intro p2 hp2
        refine ⟨_, _, rfl, .inr (.inl ⟨p2, _, rfl, .of upd_same, (by show (1 : Nat) ≠ 2; decide), (by show (1 : Nat) ≤ 1000; decide), rfl⟩), ?_⟩
        walk_at "rds"
        exact (s2.new hp).new hp2
      · exact ⟨rfl, s2⟩
    rintro σ' H3 ⟨rfl, s3⟩
    walk_at "rds"
    intro p hp
    refine ⟨_, _, rfl, .inr (.inr (.inr ⟨p, l, w, d, rfl, .of upd_same, by omega, hd _ (s3.new hp), hsh, rfl⟩)), ?_⟩
    rw [hdue]
    walk_at "rds"
    refine iteND (fun q => absurd rfl q) fun _ => ?_
    walk_at "rds"
    refine ⟨_, _, rfl, .inl ⟨_, rfl, rfl⟩, ?_⟩
    walk_at "rds"
    walk_at "ri" <;> intro c1
    · walk_at "rds"
      exact qT (Q := Q) (decide_eq_decide.mpr ⟨fun q => q.2, fun q => ⟨c1, q⟩⟩) (k _ (((s1.trans s3)).new hp))
    · walk_at "rds"
      exact qT (Q := Q) (decide_eq_false fun q => c1 q.1) (k _ (((s1.trans s3)).new hp))
def spLaw (K : PySem.W.Frag) : Sp := fun vs H Q _ => ∃ (a : Addr) (ns : List Int), vs = [.ref a] ∧ SqL K H a (ns.map V.int) ∧ ns.length ≤ 63 ∧ (∀ z ∈ ns, Builtin.Int.intBits z ≤ 1048576) ∧ Only H ∧ ∀ H', Q (.bl true) H'

/-- what is refused by all three -/
structure Wrong (K : PySem.W.Frag) (H : Hp) (v : V) : Prop where
  lamp : LampSays K H v false
  slot : SlotSays K H v false
  worth : WorthSays K H v false
theorem Wrong.flat {K : PySem.W.Frag} {H : Hp} {v : V} {u : Value} (h : TyX K H v u) (h1 : PySem.W.kitOne K u (.type "str") = some false) (h2 : PySem.W.kitOne K u (.type "tuple") = some false)
    (h3 : WorthSays K H v false) : Wrong K H v := ⟨.inr ⟨⟨u, h, h1⟩, rfl⟩, .inl ⟨⟨u, h, h2⟩, rfl⟩, h3⟩
theorem ok_law (T : Txt K mg) : ∃ fd, FnOk P w K mg base CX0 6 (He.fAd K ("law", none)) fd ["_law_script"] (spLaw K) ∧ FunD K "law" "law" (defArgs s_law) (defBody s_law) (defScope s_law) [] [] (He.fAd K ("law", none)) fd := by
  obtain ⟨fd, F⟩ := T.c.def_ 10 (d := d_law) rfl
  obtain ⟨fd_l_good, G_l_good, F_l_good⟩ := ok_l_good (P := P) (w := w) (base := base) T
  have kp_l_good := F_l_good.kp
  have b_l_good : Binds K fd_l_good ["_law_cell", "_law_k"] [] := FunD.bindsN F_l_good (fun _ _ _ _ _ _ us hl => match us, hl with | [_, _], _ => rfl)
  obtain ⟨fd_is_worth, G_is_worth, F_is_worth⟩ := ok_is_worth (P := P) (w := w) (base := base) T
  have kp_is_worth := F_is_worth.kp
  have b_is_worth : Binds K fd_is_worth ["thing"] [] := FunD.bindsN F_is_worth (fun _ _ _ _ _ _ us hl => match us, hl with | [_], _ => rfl)
  obtain ⟨fd_is_slot, G_is_slot, F_is_slot⟩ := ok_is_slot (P := P) (w := w) (base := base) T
  have kp_is_slot := F_is_slot.kp
  have b_is_slot : Binds K fd_is_slot ["thing"] [] := FunD.bindsN F_is_slot (fun _ _ _ _ _ _ us hl => match us, hl with | [_], _ => rfl)
  obtain ⟨fd_is_lamp, G_is_lamp, F_is_lamp⟩ := ok_is_lamp (P := P) (w := w) (base := base) T
  have kp_is_lamp := F_is_lamp.kp
  have b_is_lamp : Binds K fd_is_lamp ["thing"] [] := FunD.bindsN F_is_lamp (fun _ _ _ _ _ _ us hl => match us, hl with | [_], _ => rfl)
  refine ⟨fd, F.ok sc_law (by walk_at "g94len") (fun cdv A outer st H vs Q E hr h => ?_), F⟩
  · obtain ⟨a, ns, rfl, hS, hlen, hbits, hO, k⟩ := h
    refine ⟨_, PSs.nox (pss_cons (ps_for PassesOwn.never rfl (pi_range1 rfl (free_range T) (pa_cons (pe_callB (call_min2 rfl) (by rfl) (free_min T) (by decide +kernel) (pa_cons (pe_callB call_len_seq (by rfl) (free_len T) (by decide +kernel) (pa_cons (pv 0) pa_nil)) (pa_cons pe_int pa_nil))) pa_nil)) (pg_name (i := 1) sc_law.nd rfl (Or.inl rfl)) (pss_one (ps_if (pt_not (pt_val (pe_call G_l_good (hr.mono (by decide)) rfl (glo__law_good T) kp_l_good b_l_good .nil pass0 (pa_cons (pe_ix ix_list (pv 0) (pv 1) (fun _ _ => rfl)) (pa_cons (pv 1) pa_nil))))) (pss_one (ps_ret pe_bl)) pss_nil)))
        (pss_cons (ps_for PassesOwn.never rfl (pi_list (pe_lst (pa_cons pe_non (pa_cons pe_bl (pa_cons pe_bl (pa_cons pe_str (pa_cons (pe_tup pa_nil) (pa_cons (pe_lst pa_nil) (pa_cons pe_dnewT (pa_cons pe_str (pa_cons (pe_tup (pa_cons pe_str pa_nil)) (pa_cons pe_negC (pa_cons (pe_op op_add (pe_powC (v := 1000000000) (by rfl) (by decide +kernel)) pe_int) pa_nil))))))))))))) (pg_name (i := 2) sc_law.nd rfl (Or.inl rfl)) (pss_cons (ps_if (PW.pt (pw_or (pt_cmpR op_isnot_bl (pe_call G_is_lamp (hr.mono (by decide)) rfl (glo_is_lamp T) kp_is_lamp b_is_lamp .nil pass0 (pa_cons (pv 2) pa_nil)) pe_bl (nomark _)) (pw_or1 (pt_cmpR op_isnot_bl (pe_call G_is_slot (hr.mono (by decide)) rfl (glo_is_slot T) kp_is_slot b_is_slot .nil pass0 (pa_cons (pv 2) pa_nil)) pe_bl (nomark _))))) (pss_one (ps_ret pe_bl)) pss_nil)
        (pss_one (ps_if (pt_cmpR op_isnot_bl (pe_call G_is_worth (hr.mono (by decide)) rfl (glo_is_worth T) kp_is_worth b_is_worth .nil pass0 (pa_cons (pv 2) pa_nil)) pe_bl (nomark _)) (pss_one (ps_ret pe_bl)) pss_nil))))
        (pss_cons (ps_if (PW.pt (pw_or (pt_cmpR op_isnot_bl (pe_call G_is_slot (hr.mono (by decide)) rfl (glo_is_slot T) kp_is_slot b_is_slot .nil pass0 (pa_cons (pe_tup (pa_cons pe_str (pa_cons pe_str (pa_cons pe_str pa_nil)))) pa_nil)) pe_bl (nomark _)) (pw_or1 (pt_cmpR op_isnot_bl (pe_call G_is_slot (hr.mono (by decide)) rfl (glo_is_slot T) kp_is_slot b_is_slot .nil pass0 (pa_cons (pe_tup (pa_cons (pe_tup (pa_cons pe_str pa_nil)) (pa_cons pe_str pa_nil))) pa_nil)) pe_bl (nomark _))))) (pss_one (ps_ret pe_bl)) pss_nil)
        (pss_one (ps_ret (pe_and (pe_cmpR op_is_bl (pe_call G_is_worth (hr.mono (by decide)) rfl (glo_is_worth T) kp_is_worth b_is_worth .nil pass0 (pa_cons pe_int pa_nil)) pe_bl (nomark _)) (pe_one (pe_cmpR op_is_bl (pe_call G_is_worth (hr.mono (by decide)) rfl (glo_is_worth T) kp_is_worth b_is_worth .nil pass0 (pa_cons (pe_powC (v := 1000000000) (by rfl) (by decide +kernel)) pa_nil)) pe_bl (nomark _))))))))), ?_⟩
    clear hbits hO
    walk_at "rds"
    refine ⟨a, _, rfl, .inl hS, ?_⟩
    rw [List.length_map]
    walk_at "rds"
    have hmn : (if (84 : Int) < (ns.length : Int) then (84 : Int) else (ns.length : Int)) = ns.length := if_neg (by omega)
    rw [hmn]
    walk_at "rds"
    refine for_range (lo := 0) (n := ((ns.length : Int)).toNat) (fun i σ' H' => ∃ (v : Option V), σ' = [some (.ref a), v, none] ∧ Same H H') ⟨_, rfl, .refl _⟩ ?_ ?_
    · rintro i σ' H' hi ⟨v, rfl, s⟩
      have hil : i < ns.length := by omega
      have hx : atI (ns.map V.int) (0 + (i : Int)) = some (V.int ns[i]) := by
        rw [Int.zero_add]
        exact atI_nat (by rw [List.getElem?_map, List.getElem?_eq_getElem hil]; rfl)
      walk_at "rds"
      refine ⟨a, _, _, _, rfl, rfl, s.seq hS, hx, ?_⟩
      walk_at "rds"
      intro H2 s2
      walk_at "rds"
      exact s.trans s2
    rintro σ' H' ⟨v, rfl, s⟩
    walk_at "rds"
    intro p1 hp1
    have s1 := s.new (o := HO.tup []) hp1
    have q1 : upd H' p1 (HO.tup []) p1 = some (HO.tup []) := upd_same
    generalize upd H' p1 (HO.tup []) = H1 at s1 q1 ⊢
    walk_at "rds"
    intro p2 hp2
    have s2 := (Same.refl H1).new (o := HO.lst []) hp2
    have q2 : upd H1 p2 (HO.lst []) p2 = some (HO.lst []) := upd_same
    generalize upd H1 p2 (HO.lst []) = H2 at s2 q2 ⊢
    walk_at "rds"
    intro p3 hp3
    have s3 := (Same.refl H2).new (o := HO.dT []) hp3
    have q3 : upd H2 p3 (HO.dT []) p3 = some (HO.dT []) := upd_same
    generalize upd H2 p3 (HO.dT []) = H3 at s3 q3 ⊢
    walk_at "rds"
    intro p4 hp4
    have s4 := (Same.refl H3).new (o := HO.tup [.str "a"]) hp4
    have q4 : upd H3 p4 (HO.tup [.str "a"]) p4 = some (HO.tup [.str "a"]) := upd_same
    generalize upd H3 p4 (HO.tup [.str "a"]) = H4 at s4 q4 ⊢
    walk_at "rds"
    intro p5 hp5
    have F : ∀ H5 : Hp, Same H4 H5 → ∀ v ∈ [V.non, .bl true, .bl false, .str "", .ref p1, .ref p2, .ref p3, .str "5", .ref p4, .int (-1), .int (1000000000 + 1)], Wrong K H5 v := by
      intro H5 s v hv
      have r1 := s _ _ (s4 _ _ (s3 _ _ (s2 _ _ q1)))
      have r2 := s _ _ (s4 _ _ (s3 _ _ q2))
      have r3 := s _ _ (s4 _ _ q3)
      have r4 := s _ _ q4
      simp only [List.mem_cons, List.not_mem_nil, or_false] at hv
      rcases hv with rfl | rfl | rfl | rfl | rfl | rfl | rfl | rfl | rfl | rfl | rfl
      · exact .flat (.base .non) (kit_ty (by decide +kernel)) (kit_ty (by decide +kernel)) (.inr (.inr ⟨⟨_, .base .non, kit_ty (by decide +kernel)⟩, rfl⟩))
      · exact .flat (.base (.bl _)) (kit_ty (by decide +kernel)) (kit_ty (by decide +kernel)) (.inr (.inl ⟨_, rfl, rfl⟩))
      · exact .flat (.base (.bl _)) (kit_ty (by decide +kernel)) (kit_ty (by decide +kernel)) (.inr (.inl ⟨_, rfl, rfl⟩))
      · exact ⟨.inl ⟨[], rfl, by decide, by decide +kernel⟩, .inl ⟨⟨_, .base (.str _), kit_ty (by decide +kernel)⟩, rfl⟩, .inr (.inr ⟨⟨_, .base (.str _), kit_ty (by decide +kernel)⟩, rfl⟩)⟩
      · exact ⟨.inr ⟨⟨_, .base (.tup r1), kit_ty (by decide +kernel)⟩, rfl⟩, .inr (.inl ⟨p1, _, rfl, .of r1, by decide, by decide, rfl⟩), .inr (.inr ⟨⟨_, .base (.tup r1), kit_ty (by decide +kernel)⟩, rfl⟩)⟩
      · exact .flat (.base (.lst r2)) (kit_ty (by decide +kernel)) (kit_ty (by decide +kernel)) (.inr (.inr ⟨⟨_, .base (.lst r2), kit_ty (by decide +kernel)⟩, rfl⟩))
      · exact .flat (.base (.dT r3)) (kit_ty (by decide +kernel)) (kit_ty (by decide +kernel)) (.inr (.inr ⟨⟨_, .base (.dT r3), kit_ty (by decide +kernel)⟩, rfl⟩))
      · exact ⟨.inl ⟨[53], rfl, by decide, by decide +kernel⟩, .inl ⟨⟨_, .base (.str _), kit_ty (by decide +kernel)⟩, rfl⟩, .inr (.inr ⟨⟨_, .base (.str _), kit_ty (by decide +kernel)⟩, rfl⟩)⟩
      · exact ⟨.inr ⟨⟨_, .base (.tup r4), kit_ty (by decide +kernel)⟩, rfl⟩, .inr (.inl ⟨p4, _, rfl, .of r4, by decide, by decide, rfl⟩), .inr (.inr ⟨⟨_, .base (.tup r4), kit_ty (by decide +kernel)⟩, rfl⟩)⟩
      · exact .flat (.base (.int _)) (kit_ty (by decide +kernel)) (kit_ty (by decide +kernel)) (.inl ⟨_, rfl, by decide⟩)
      · exact .flat (.base (.int _)) (kit_ty (by decide +kernel)) (kit_ty (by decide +kernel)) (.inl ⟨_, rfl, by decide⟩)
    have s5 := (Same.refl H4).new (o := HO.lst [V.non, .bl true, .bl false, .str "", .ref p1, .ref p2, .ref p3, .str "5", .ref p4, .int (-1), .int (1000000000 + 1)]) hp5
    have q5 : upd H4 p5 (HO.lst [V.non, .bl true, .bl false, .str "", .ref p1, .ref p2, .ref p3, .str "5", .ref p4, .int (-1), .int (1000000000 + 1)]) p5 = some (HO.lst [V.non, .bl true, .bl false, .str "", .ref p1, .ref p2, .ref p3, .str "5", .ref p4, .int (-1), .int (1000000000 + 1)]) := upd_same
    have F5 := F _ s5
    refine ⟨p5, rfl, ⟨_, .of q5⟩, ?_⟩
    generalize [V.non, V.bl true, V.bl false, V.str "", V.ref p1, V.ref p2, V.ref p3, V.str "5", V.ref p4, V.int (-1), V.int (1000000000 + 1)] = things at F5 q5 s5 ⊢
    generalize upd H4 p5 (HO.lst things) = H5 at F5 q5 s5 ⊢
    refine for_list (K := K) (a := p5) (xs := things) (fun i σ2 H' => ∃ w : Option V, σ2 = [some (.ref a), v, w] ∧ H' = H5) ⟨_, rfl, rfl⟩ (fun i σ' H' _ ⟨_, _, e⟩ => by rw [e]; exact .of q5) ?_ ?_
    · rintro i y σ2 H6 hi ⟨w, rfl, rfl⟩
      obtain ⟨f1, f2, f3⟩ := F5 y (List.mem_of_getElem? hi)
      refine ⟨_, rfl, y, _, rfl, f1, _, _, rfl, rfl, _, rfl, ?_⟩
      walk_at "rds"
      refine ⟨y, _, rfl, f2, _, _, rfl, rfl, _, rfl, ?_⟩
      walk_at "rds"
      refine ⟨y, _, rfl, f3, _, _, rfl, rfl, _, rfl, ?_⟩
      exact ⟨_, rfl, rfl⟩
    rintro σ2 H6 ⟨w, rfl, rfl⟩
    walk_at "rds"
    intro p6 hp6
    refine ⟨_, _, rfl, .inr (.inl ⟨p6, _, rfl, .of upd_same, (by show (3 : Nat) ≠ 2; decide), (by show (3 : Nat) ≤ 1000; decide), rfl⟩), ?_⟩
    walk_at "rds"
    intro p7 hp7
    walk_at "rds"
    intro p8 hp8
    refine ⟨_, _, rfl, .inr (.inr (.inl ⟨p8, .ref p7, .str "pan", rfl, .of upd_same, ⟨_, .base (.tup (by rw [upd_ne (ne_of_none upd_same hp8)]; exact upd_same)), kit_ty (by decide +kernel)⟩, rfl⟩)), ?_⟩
    walk_at "rds"
    refine ⟨_, _, rfl, .inl ⟨0, rfl, rfl⟩, ?_⟩
    walk_at "rds"
    refine ⟨_, _, rfl, .inl ⟨1000000000, rfl, rfl⟩, ?_⟩
    walk_at "rds"
    exact k _
theorem law_facts {fa : Addr} (T : Txt K mg) (hfa : mg "law" = some (.ref fa)) :
    ∃ fd : FuncData, (∀ (s : Shared) (v : Value), BindsTo s fd ⟨[v], []⟩ [("_law_script", v)]) ∧ ∀ base : Heap, K.In base → base.Ns mainGlobals mg → FnOk P w K mg base CX0 6 fa fd ["_law_script"] (spLaw K) := by
  have e := hfa.symm.trans (glo_law T)
  cases e
  obtain ⟨fd, _, F⟩ := ok_law (P := P) (w := w) (base := default) T
  refine ⟨fd, fun s v => FunD.bindsA (ps := ["_law_script"]) F (fun _ _ _ _ _ _ us hl => match us, hl with | [_], _ => rfl) s [v] rfl, fun base _ _ => ?_⟩
  obtain ⟨fd', G, F'⟩ := ok_law (P := P) (w := w) (base := base) T
  have q : fd' = fd := F'.fd_eq F
  rw [← q]
  exact G


end

abbrev R : PySem.W.OpenRow := PySem.W.OpenLaw.row PySem.Challenge.rw_lampcues_k11_slots_and_worths
abbrev hk : PySem.W.Hook := L2.hookY 6 fa fn exB
def ob (s : PySem.W.SharedT) : He.AlD × Bool := L2.obsY 6 fa fn exB (HandSHeadRun.getT s)
theorem ob_eq (s : PySem.W.SharedT) : ob s = hk.obs s.abs := L2.obsY_eq (HandSHeadRun.getT_eq s)
def loose0 : List PySem.Str := ["LETTERS", "SIDES", "MOST", "is_amid", "is_lamp", "is_slot", "is_worth", "_law_sign", "_law_word", "_law_lamp", "_law_side", "_law_is", "_law_good"]
def loose : List PySem.Str := loose0
theorem run (w : World) : HandSHeadRun.RunEq R (PySem.W.view R.prog [15]) hk ob 4000 loose w := by
  intro os
  kernel_rfl
end G94
open PySem PySem.W PySem.Calls PyProof.Rows
theorem PySem.Challenge.cw_lampcues_k11_slots_and_worths_holds : PySem.Challenge.rw_lampcues_k11_slots_and_worths.Holds := by
  w_on; o_law
  refine HandSHeadRun.head_any (r := OpenLaw.row PySem.Challenge.rw_lampcues_k11_slots_and_worths) (q := view (OpenLaw.row PySem.Challenge.rw_lampcues_k11_slots_and_worths).prog [15]) (H := G94.hk) (ob := G94.ob) (M := 4000) (loose := G94.loose) (d := HandSHeadRun.topDef (OpenLaw.row PySem.Challenge.rw_lampcues_k11_slots_and_worths).prog 15) (kwd := []) G94.ob_eq
    (by kernel_rfl) (fun s => by kernel_rfl) G94.run (by kernel_rfl) (by kernel_rfl) (by kernel_rfl) (by rfl) (by first | assumption | decide +kernel) (by decide +kernel) ⟨rfl, rfl, rfl, rfl, rfl, by decide +kernel⟩ ?hw ?hc
  case hw => w_witness2
  case hc =>
    refine L2.walk_ofEB (l := PySem.Challenge.rw_lampcues_k11_slots_and_worths) (n := 63) (k := 6) (x := "_law_script") (CX := L2.CX0) rfl (by decide) (by kernel_rfl) ⟨rfl, by decide, by decide⟩ ?F (fun _ _ _ _ z => z)
    intro w mg fa h Y G hmg0
    obtain ⟨K, KX, c, cx⟩ := Y
    have hmg : mg ("law" : PySem.Str) = some (.ref fa) := by
      have e : (HandSHeadRun.topDef (OpenLaw.row PySem.Challenge.rw_lampcues_k11_slots_and_worths).prog 15).name = ("law" : PySem.Str) := by kernel_rfl
      rw [← e]
      exact hmg0
    obtain ⟨fd, hb, hF⟩ := G94.law_facts (P := (PySem.Challenge.rw_lampcues_k11_slots_and_worths).prog) (w := w) ⟨c, ⟨h, KX, G⟩, cx⟩ hmg
    exact ⟨K, fd, G94.spLaw K, KX, hb, fun H a ns hl hb hH hS => ⟨a, ns, rfl, hS, hl, hb, hH, fun _ => rfl⟩, hF⟩
