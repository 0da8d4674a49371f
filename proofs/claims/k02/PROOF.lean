import PyProof.Rows.All
import Wide.All
import OpenK.AllK
import Wide.FinOn
import KE.KStateDown
import HandS.ForMost
import HandS.Exc
import HandS.TryOnly
import HandS.ExcOwn
import HandS.WordsExc
import HandS.Defaults
import HandS.Wide
import HandS.IsInst
import HandS.ExcIs
import HandS.EndBits
import HandS.TupLe
import HandS.Rev
import HandS.Codes
import HandS.MakeKw
import HandS.StrMore
import HandS.Head0
import HandS.Head1
import HandS.Head2
import HandS.HeadEnd
import HandS.HeadHook1
import HandS.HeadHook2
import HandS.More
import HandS.ExcInit
import HandS.ExcField
import HandS.SortKw
import PySem.Challenge.RW_lampcues_k02_times_read
set_option pp.maxSteps 900
set_option Elab.async false
set_option linter.all false
set_option maxRecDepth 100000
set_option maxHeartbeats 4000000
namespace L2
open PySem PySem.Spec PyProof.Rows
/-! ### own rules, own words -/
/-- a law's end by facts, with the script's bits and the only tracked thing told -/
theorem walk_ofEB {l : PySem.W.OpenLaw} {n k : Nat} {q : Program} {loose : List Str} {XP : (Str → Option Value) → Heap → Prop} {YP : World → Heap → Prop} {d : DefRec} {CX : CXT} {x : Str}
    (hn : l.most = some n) (hn2 : n ≤ sizeLine) (hdf : d.params.defaults = []) (hr : Room k callerA)
    (F : ∀ (w : World) (mg : Str → Option Value) (fa : Addr) (h : Heap), YP w h → h.Ns mainGlobals mg → mg d.name = some (.ref fa) →
      ∃ (K : PySem.W.Frag) (fd : FuncData) (sp : Sp), K.In h ∧ (∀ (s : Shared) (u : Value), BindsTo s fd ⟨[u], []⟩ [(x, u)]) ∧
        (∀ (H : Hp) (a : Addr) (ns : List Int), ns.length ≤ n → (∀ z ∈ ns, Builtin.Int.intBits z ≤ 1048576) → Only H → SqL K H a (ns.map V.int) → sp [.ref a] H (fun v _ => v = .bl true) fun _ _ _ => False) ∧
        ∀ base : Heap, K.In base → base.Ns mainGlobals mg → FnOk l.prog w K mg base CX k fa fd [x] sp)
    (hCX : ∀ (H : Hp) (s : Shared) (e : Value) (s' : Shared), CX [] H s (fun _ _ _ => False) e s' → False) :
    PySem.W.WalkO q loose XP YP l.row.toRowW d [] (fun f vs => PySem.call f vs) := by
  refine Att.attach_callB hn hdf fun w s₀ s₁ mg mb fa o pm cd doc a vs ns G Y ho hd hcd hmg hobj hints hlen hbits hg => ?_
  obtain ⟨K, fd, sp, KX, hb, hsp, hF⟩ := F w mg fa _ Y G.T.g hmg
  exact law_call KX G.T.g G.T.b G.T.builtins G.T.nolimit hg hobj hints (Nat.le_trans hlen hn2) hr hF hb (fun H hO hS => hsp H a ns hlen hbits hO hS) fun H e s' => hCX H s₁ e s'
section
variable {X : Cx}
/-- a written power -/
theorem pe_powC {i j v : Int} {a b : Nat} {p1 p2 pos : Pos} (e : i ^ j.toNat = v) (h : 0 ≤ j ∧ j ≤ 1000000 ∧ i.natAbs < 2 ^ 64) : PE X (.BinOp (.Constant (.int i) a p1) .Pow (.Constant (.int j) b p2) pos) (tC (.int v)) := by
  subst e
  refine ⟨fun pins s σ H Q I q => ?_⟩
  exact (pe_op (X := X) op_pow pe_int pe_int).run pins s σ H Q I ⟨i, j, rfl, rfl, h, q⟩
/-- a written negative number -/
theorem pe_negC {i : Int} {a : Nat} {p1 pos : Pos} : PE X (.UnaryOp .USub (.Constant (.int i) a p1) pos) (tC (.int (-i))) := by
  refine ⟨fun pins s σ H Q I q => ?_⟩
  exact (pe_un (X := X) un_neg pe_int).run pins s σ H Q I ⟨i, rfl, q⟩
end
theorem iteD {c A B : Prop} [Decidable c] (h1 : c → A) (h2 : ¬ c → B) : if decide c = true then A else B := by
  by_cases h : c
  · rw [if_pos (decide_eq_true h)]
    exact h1 h
  · rw [if_neg (by rw [decide_eq_false h]; exact Bool.false_ne_true)]
    exact h2 h
theorem iteND {c A B : Prop} [Decidable c] (h1 : ¬ c → A) (h2 : c → B) : if (!decide c) = true then A else B := by
  by_cases h : c
  · rw [decide_eq_true h]
    exact iteF (h2 h)
  · rw [decide_eq_false h]
    exact iteT (h1 h)
theorem iteV {a b : Int} {A B : Prop} (h1 : a = b → A) (h2 : a ≠ b → B) : if decide (V.int a = V.int b) = true then A else B :=
  iteD (fun e => h1 (V.int.inj e)) fun e => h2 fun q => e (congrArg V.int q)
theorem iteNV {a b : Int} {A B : Prop} (h1 : a ≠ b → A) (h2 : a = b → B) : if (!decide (V.int a = V.int b)) = true then A else B :=
  iteND (fun e => h1 fun q => e (congrArg V.int q)) fun e => h2 (V.int.inj e)
theorem iteB {b : Bool} {A B : Prop} (h1 : b = true → A) (h2 : b = false → B) : if b = true then A else B := by
  cases b with
  | true => exact iteT (h1 rfl)
  | false => exact iteF (h2 rfl)
theorem iteDT {c A B : Prop} [Decidable c] (h : c) (h1 : A) : if decide c = true then A else B := iteD (fun _ => h1) fun q => absurd h q
theorem iteDF {c A B : Prop} [Decidable c] (h : ¬ c) (h1 : B) : if decide c = true then A else B := iteD (fun q => absurd q h) fun _ => h1
theorem iteVT {a b : Int} {A B : Prop} (h : a = b) (h1 : A) : if decide (V.int a = V.int b) = true then A else B := iteV (fun _ => h1) fun q => absurd h q
theorem iteVF {a b : Int} {A B : Prop} (h : a ≠ b) (h1 : B) : if decide (V.int a = V.int b) = true then A else B := iteV (fun q => absurd q h) fun _ => h1
theorem iteNVF {a b : Int} {A B : Prop} (h : a = b) (h1 : B) : if (!decide (V.int a = V.int b)) = true then A else B := iteNV (fun q => absurd h q) fun _ => h1
theorem yes_lc {σ : St} {H : Hp} {A B : Hp → Prop} (h : A H) : tYes σ H (fun b H3 => if b = true then A H3 else B H3) := by
  show if true = true then A H else B H
  rw [if_pos rfl]
  exact h
theorem qT {Q : VK} {H : Hp} {c : Prop} [Decidable c] (h : c) (k : Q (.bl true) H) : Q (.bl (decide c)) H := by
  rw [decide_eq_true h]
  exact k
theorem qF {Q : VK} {H : Hp} {c : Prop} [Decidable c] (h : ¬ c) (k : Q (.bl false) H) : Q (.bl (decide c)) H := by
  rw [decide_eq_false h]
  exact k
theorem iteS {a b : List Nat} {z : Str} {A B : Prop} (e : z = SX.S b) (h1 : a = b → A) (h2 : a ≠ b → B) : if decide (V.str (SX.S a) = V.str z) = true then A else B := by
  subst e
  exact iteD (fun q => h1 (SX.S_inj (V.str.inj q))) fun q => h2 fun r => q (congrArg (fun l => V.str (SX.S l)) r)
theorem iteNSt {a b : List Nat} {z : Str} {A B : Prop} (e : z = SX.S b) (h1 : a ≠ b → A) (h2 : a = b → B) : if (!decide (V.str (SX.S a) = V.str z)) = true then A else B := by
  subst e
  exact iteND (fun q => h1 fun r => q (congrArg (fun l => V.str (SX.S l)) r)) fun q => h2 (SX.S_inj (V.str.inj q))
theorem cut_ints (ns : List Int) (lo hi : Option Int) : ∃ ms : List Int, cutV (ns.map V.int) lo hi = ms.map V.int ∧ ms.length ≤ ns.length ∧ ∀ z ∈ ms, z ∈ ns := by
  refine ⟨(ns.drop (HT.sIx (ns.map V.int).length 0 lo)).take (HT.sIx (ns.map V.int).length (ns.map V.int).length hi - HT.sIx (ns.map V.int).length 0 lo), ?_, ?_, ?_⟩
  · unfold cutV
    rw [List.map_take, List.map_drop]
  · rw [List.length_take, List.length_drop]
    omega
  · intro z hz
    exact List.mem_of_mem_drop (List.mem_of_mem_take hz)
theorem int_at {ns : List Int} {i : Nat} {y : V} (h : (ns.map V.int)[i]? = some y) : ∃ z, y = V.int z ∧ ns[i]? = some z ∧ i < ns.length := by
  rw [List.getElem?_map] at h
  cases e : ns[i]? with
  | none =>
    rw [e] at h
    cases h
  | some z =>
    rw [e] at h
    exact ⟨z, (Option.some.inj h).symm, rfl, (List.getElem?_eq_some_iff.mp e).1⟩
theorem atI_lt {xs : List V} {k : Int} (h0 : 0 ≤ k) (h1 : k < xs.length) : ∃ v, atI xs k = some v ∧ xs[k.toNat]? = some v := by
  have hl : k.toNat < xs.length := by omega
  refine ⟨xs[k.toNat], ?_, List.getElem?_eq_getElem hl⟩
  obtain ⟨n, rfl⟩ : ∃ n : Nat, k = n := ⟨k.toNat, by omega⟩
  exact atI_nat (List.getElem?_eq_getElem hl)
theorem at2 {a b k : Int} (h0 : 0 ≤ k) (h1 : k < 2) : ∃ v, atI [V.int a, V.int b] k = some (V.int v) ∧ ((k = 0 ∧ v = a) ∨ (k = 1 ∧ v = b)) := by
  rcases (by omega : k = 0 ∨ k = 1) with rfl | rfl
  · exact ⟨a, rfl, .inl ⟨rfl, rfl⟩⟩
  · exact ⟨b, rfl, .inr ⟨rfl, rfl⟩⟩
theorem at3 {a b c k : Int} (h0 : 0 ≤ k) (h1 : k < 3) : ∃ v, atI [V.int a, V.int b, V.int c] k = some (V.int v) ∧ ((k = 0 ∧ v = a) ∨ (k = 1 ∧ v = b) ∨ (k = 2 ∧ v = c)) := by
  rcases (by omega : k = 0 ∨ k = 1 ∨ k = 2) with rfl | rfl | rfl
  · exact ⟨a, rfl, .inl ⟨rfl, rfl⟩⟩
  · exact ⟨b, rfl, .inr (.inl ⟨rfl, rfl⟩)⟩
  · exact ⟨c, rfl, .inr (.inr ⟨rfl, rfl⟩)⟩
/-- a call that writes all parameters, the last ones by name -/
theorem kb_all {K : PySem.W.Frag} {x qual : Str} {params : Arguments} {body : List Stmt} {scope : Scope} {dvs : List V} {kws : List (Str × V)} {f : Addr} {fd : FuncData} {ps : List Str} (F : FunD K x qual params body scope dvs kws f fd) (n : Nat) (ks : List Str) (hd : dvs ≠ [])
    (h : ∀ (T : Addr) (kV doc pm : Value) (an : Option Addr) (cdv ct : Value) (us its ws : List Value), us.length = n → its.length = dvs.length → ws.length = ks.length →
      ∃ k, bindArgs (PySem.W.fnOf x qual params body scope (.ref T) kV doc pm an cdv ct) ⟨us, ks.zip ws⟩ = seqItems? (.ref T) >>= k ∧ k (some its.toArray) = pure (ps.zip (us ++ ws))) : KBn K fd ps n ks (fun us ws => us ++ ws) (fun vs zs => vs ++ zs) := by
  obtain ⟨oc, od, dV, kV, doc, pm, an, cdv, ct, osl, rfl, lk, hcd, hD, _⟩ := F.ex
  rcases hD with ⟨e, _⟩ | ⟨_, T, o, its, m, rfl, lT, oT, rT⟩
  · exact absurd e hd
  · refine ⟨fun s us ws X h1 h2 => ?_, fun r1 r2 => r1.append r2⟩
    obtain ⟨k, e1, e2⟩ := h T kV doc pm an cdv ct us its ws h1 rT.length.symm h2
    refine BindsTo.of_looks fun M => ?_
    rw [e1]
    exact looks_items X lT oT (.of_pure e2)
theorem FunD.fd_eq {K : PySem.W.Frag} {x qual : Str} {params : Arguments} {body : List Stmt} {scope : Scope} {dvs : List V} {kws : List (Str × V)} {f : Addr} {fd fd' : FuncData} (F : FunD K x qual params body scope dvs kws f fd) (F' : FunD K x qual params body scope dvs kws f fd') : fd = fd' := by
  obtain ⟨_, _, _, _, _, _, _, _, _, _, _, l, _⟩ := F.ex
  obtain ⟨_, _, _, _, _, _, _, _, _, _, _, l', _⟩ := F'.ex
  rw [l] at l'
  simp only [Option.some.injEq, Obj.mk.injEq, Data.func.injEq] at l'
  exact l'.2.2.1
theorem at4 {a b c d k : Int} (h0 : 0 ≤ k) (h1 : k < 4) : ∃ v, atI ([a, b, c, d].map V.int) k = some (V.int v) := by
  rcases (by omega : k = 0 ∨ k = 1 ∨ k = 2 ∨ k = 3) with rfl | rfl | rfl | rfl
  · exact ⟨a, rfl⟩
  · exact ⟨b, rfl⟩
  · exact ⟨c, rfl⟩
  · exact ⟨d, rfl⟩
theorem ints_last {es : List Int} {v : Int} (h : es.getLast? = some v) : atI (es.map V.int) (-1) = some (V.int v) := by
  obtain ⟨r, e⟩ := List.getLast?_eq_some_iff.mp h
  rw [e, List.map_append]
  exact atI_last _ _
/-- a loop over the signs of a text -/
theorem for_text {l : List Nat} {g : TG} {tb : TS} {D : Ends} {σ : St} {H : Hp} (Pv : Nat → St → Hp → Prop) (h0 : Pv 0 σ H)
    (hs : ∀ (i : Nat) (c : Nat) (σ : St) (H : Hp), l[i]? = some c → Pv i σ H → g (.str ⟨#[c]⟩) σ H (fun σ2 H2 => tb { D with nx := Pv (i + 1), ct := Pv (i + 1), bk := D.nx } σ2 H2))
    (hd : ∀ σ H, Pv l.length σ H → D.nx σ H) :
    ∃ W : Nat → Nat → St → Hp → Prop, (∃ m, W 0 m σ H) ∧ ∀ i m σ H, W i m σ H → ((Its (SX.S l)).stop i H ∧ D.nx σ H) ∨
      ((Its (SX.S l)).go i H ∧ ∃ N : St → Hp → Prop, (∀ σ' H', N σ' H' → ∃ m', m' < m ∧ W (i + 1) m' σ' H') ∧ ∀ v H', (Its (SX.S l)).yld i H v H' → g v σ H' fun σ2 H2 => tb { D with nx := N, ct := N, bk := D.nx } σ2 H2) := by
  refine ⟨fun i m σ H => m = l.length - i ∧ i ≤ l.length ∧ Pv i σ H, ⟨_, rfl, Nat.zero_le _, h0⟩, ?_⟩
  intro i m σ1 H1 hw
  obtain ⟨em, hi, p⟩ := hw
  have es : (SX.S l).cps.size = l.length := by simp
  rcases Nat.lt_or_ge i l.length with hlt | hge
  · right
    refine ⟨(by show i < (SX.S l).cps.size; omega), Pv (i + 1), fun σ' H' p' => ⟨l.length - (i + 1), by omega, rfl, by omega, p'⟩, ?_⟩
    intro v H' hy
    obtain ⟨e, c, hc, ev⟩ := hy
    rw [e, ev]
    refine hs i c σ1 H1 ?_ p
    have h2 : (SX.S l).cps[i]? = l[i]? := by simp
    rw [← h2]
    exact hc
  · left
    refine ⟨(by show (SX.S l).cps.size ≤ i; omega), hd σ1 H1 ?_⟩
    have e : i = l.length := by omega
    rw [← e]
    exact p
theorem atI_head {α : Type} (c : α) (r : List α) : atI (c :: r) 0 = some c := by
  show atI (c :: r) ((0 : Nat) : Int) = some c
  exact atI_nat rfl
theorem small_size {n : Nat} (h : n ≤ 100000) : n ≤ sizeLine := Nat.le_trans h (by decide)
theorem Same.new {H H' : Hp} {p : Addr} {o : HO} (e : Same H H') (h : H' p = none) : Same H (upd H' p o) := fun a u q => by
  rw [upd_ne (ne_of_none (e a u q) h)]
  exact e a u q
theorem Same.mut {H H' : Hp} {p : Addr} {o : HO} (e : Same H H') (h : H p = none) : Same H (upd H' p o) := fun a u q => by
  rw [upd_ne (ne_of_none q h)]
  exact e a u q
/-- o.m(e, .., k = v, ..) -/
def tMethN (C : Addr) (m : Str) (n j : Nat) (sp : Sp) (gV : List V → List V → List V) (E : XK) (ta : TE) (t tk : TA) : TE := fun σ H Q => ta σ H fun x H1 => ∃ a dx fs, x = .ref a ∧ H1 a = some (.ins C dx fs) ∧ fs.lookup m = none ∧
  t σ H1 fun vs H2 => tk σ H2 fun zs H3 => vs.length = n ∧ zs.length = j ∧ sp (gV (x :: vs) zs) H3 Q E
theorem pe_methN {X : Cx} {CX : CXT} {k n : Nat} {f C : Addr} {fd : FuncData} {ps ks : List Str} {sp : Sp} {E : XK} {m : Str} {o e : Expr} {es : List Expr} {kws : List Keyword} {apos pos : Pos} {ta : TE} {t tk : TA} {g : List Value → List Value → List Value} {gV : List V → List V → List V} {pl : Sem Bool}
    (he : PE X o ta) (c : Cls X.K C) (hm : Meth X.K C m f) (F : FnOk X.prog X.w X.K X.mg X.base CX k f fd ps sp) (hr : Room k X.A) (hb : KBn X.K fd ps (n + 1) ks g gV) (hx : Passes CX X E) (ha : PA X (e :: es) t) (hkw : PK X kws tk)
    (hall : (backToKw pos (keywordEach kws X.env)).all (·.1.isSome) = true := by rfl)
    (hks : (backToKw pos (keywordEach kws X.env)).filterMap (·.1) = ks := by rfl)
    (hst : starEach (e :: es) X.env = (false, eval e X.env) :: starEach es X.env := by rfl)
    (hpl : ((backTo pos (starEach (e :: es) X.env)).any (·.1) || (backToKw pos (keywordEach kws X.env)).any (·.1.isNone)) = false := by rfl)
    (ht : eval (.Call (.Attribute o m apos) (e :: es) kws pos) X.env = (do
      let ov ← eval o X.env
      standAt apos.atName
      let (f, first) ← holding [ov] (getMethod ov m pl)
      callWith pos f first (backTo pos (starEach (e :: es) X.env)) (backToKw pos (keywordEach kws X.env))) := by rfl) :
    PE X (.Call (.Attribute o m apos) (e :: es) kws pos) (tMethN C m n ks.length sp gV E ta t tk) := by
  constructor
  intro pins s σ H Q I hh
  apply PySem.W.methodCall_KW (pl := pl) (he := ht)
  apply thn (he.run pins s σ H _ I hh)
  rintro u s1 ⟨x, H1, I1, rx, a, dx, fs, rfl, ea, l, q⟩
  obtain rfl : u = Value.ref a := rx
  apply getmeth_ok I1 ea c hm l
  apply PySem.W.callWith_KW (first := [.ref a]) (h₀ := X.base) I.ok.mod.kin hm.kp hall (hplain := hpl) (he := hst)
  apply thn (ha.run pos pins s1 σ H1 _ I1 q)
  rintro us s2 ⟨vs, H2, I2, r, q2⟩
  apply thn (hkw.run pos pins s2 σ H2 _ I2 q2)
  rintro ws s3 ⟨zs, H3, I3, rz, l1, l2, q3⟩
  refine ⟨I3.kIn, ?_⟩
  rw [hks]
  exact run_fnN (us := .ref a :: us) (vs := .ref a :: vs) F hr hb hx I3 (.cons rfl r) rz (congrArg Nat.succ l1) l2 q3
theorem updN {H : Hp} {a b : Addr} {o u : HO} (h : b ≠ a) (e : H b = some u) : upd H a o b = some u := (upd_ne h).trans e
theorem neN {H : Hp} {a b : Addr} {u : HO} (h' : H b = none) (h : H a = some u) : a ≠ b := ne_of_none h h'
theorem neN2 {H : Hp} {a b : Addr} {u : HO} (h' : H a = none) (h : H b = some u) : a ≠ b := (ne_of_none h h').symm
theorem Same.at {H H' : Hp} {a : Addr} {u : HO} (s : Same H H') (e : H a = some u) : H' a = some u := s a u e
theorem Same.fresh {H H' : Hp} {a : Addr} (s : Same H H') (e : H' a = none) : H a = none := by
  cases h : H a with
  | none => rfl
  | some u =>
    rw [s a u h] at e
    cases e
theorem freshS {H H' : Hp} {a : Addr} (e : H' a = none) (s : Same H H') : H a = none := s.fresh e
/-! ### a head that asks one more thing of the written part -/
def obsY (n : Nat) (fa : List He.Fa) (fn : List He.DefD) (ex : PySem.W.Frag → Bool) (g : Addr → Option Obj) : He.AlD × Bool := (He.obsDG n fa fn g, ex (He.frG g (He.asD g n)))
def hookY (n : Nat) (fa : List He.Fa) (fn : List He.DefD) (ex : PySem.W.Frag → Bool) : PySem.W.Hook where
  α := He.AlD × Bool
  obs := fun s => obsY n fa fn ex s.heap.get?
  val := fun _ => (He.valD fn, true)
  says := fun _ h => ∃ K : PySem.W.Frag, K.In h ∧ He.SaysD fa fn K ∧ ex K = true
  of := fun _ _ e => ⟨_, He.frG_in, congrArg Prod.fst e, congrArg Prod.snd e⟩
  keeps := fun _ _ _ ⟨K, hK, c⟩ k => ⟨K, PySem.W.Frag.In.keeps hK k, c⟩
theorem obsY_eq {n : Nat} {fa : List He.Fa} {fn : List He.DefD} {ex : PySem.W.Frag → Bool} {g : Addr → Option Obj} {s : Shared} (h : ∀ a, g a = s.heap.get? a) : obsY n fa fn ex g = (hookY n fa fn ex).obs s := by
  have e : g = s.heap.get? := funext h
  rw [e]
  rfl
/-! ### what a class of errors must say, as one Bool -/
def excB (K : PySem.W.Frag) (x : Str) : Bool :=
  decide (PySem.W.findIn K (.ref (He.ga K x)) "__getattribute__" = some (some (.builtin "BaseException.__getattribute__"))) && (decide (PySem.W.findIn K (.ref (He.ga K x)) "__getattr__" = some none) &&
  (decide (PySem.W.subIn K (.ref (He.ga K x)) (.type "BaseException") = some true) && (PySem.W.hasDictIn K (He.ga K x) && (decide (PySem.W.findIn K (.ref (He.ga K x)) "__class__" = some (some (.builtin "object.__class__"))) &&
  (decide (PySem.W.specialIn K (.builtin "object.__class__") "__get__" = some (some (.builtin "getset_descriptor.__get__"))) && (decide (PySem.W.takesIn K (.builtin "object.__class__") = some true) && decide (PySem.W.mroIn K (He.ga K x) (.type "object") = some true)))))))
theorem excB_ok {K : PySem.W.Frag} {x : Str} (h : excB K x = true) : ExcC K (He.ga K x) := by
  obtain ⟨h1, h⟩ := He.ba h
  obtain ⟨h2, h⟩ := He.ba h
  obtain ⟨h3, h⟩ := He.ba h
  obtain ⟨h4, h⟩ := He.ba h
  obtain ⟨h5, h⟩ := He.ba h
  obtain ⟨h6, h⟩ := He.ba h
  obtain ⟨h7, h8⟩ := He.ba h
  exact ⟨of_decide_eq_true h1, of_decide_eq_true h2, of_decide_eq_true h3, h4, of_decide_eq_true h5, of_decide_eq_true h6, of_decide_eq_true h7, of_decide_eq_true h8⟩
/-- isinstance of what a suite holds, its class told by the reading -/
def rIsX (K : PySem.W.Frag) (cls : Value) (dc : Option Addr) (a : Addr) : List V → Hp → VK → Prop := fun xs H Q => ∃ D, cls = .ref D ∧ dc = none ∧ ExcC K D ∧ rIsE K D a xs H Q
theorem call_isX {X : Cx} {a : Addr} {cls : Value} {dc : Option Addr} {oe : Obj} {pn : List (Addr × Obj)} (hz : Zc cls dc oe) (hf : ∃ vs, oe.data = .fields vs) : CallR (X.suite a ((a, oe) :: pn)) (.builtin "isinstance") (rIsX X.K cls dc a) := by
  intro pins s σ H xs us Q I r h
  obtain ⟨D, e1, e2, C, q⟩ := h
  subst e1 e2
  exact call_isE C hz hf pins s σ H xs us Q I r q
end L2
/-! ### rules whose readings name the heap behind them -/
namespace L2
open PySem PySem.Spec PyProof.Rows
def Fr (H : Hp) (p : Addr) : Prop := H p = none
/-- all but a stays -/
def But (a : Addr) (H H' : Hp) : Prop := ∀ b u, b ≠ a → H b = some u → H' b = some u
theorem But.up {H : Hp} {a : Addr} {o : HO} : But a H (upd H a o) := fun b u n e => updN n e
theorem But.at {H H' : Hp} {a b : Addr} {u : HO} (m : But a H H') (n : b ≠ a) (e : H b = some u) : H' b = some u := m b u n e
theorem But.kind {H H' : Hp} {a b : Addr} {o u : HO} (m : But a H H') (h : H a = some o) (e : H b = some u) (d : u ≠ o) : H' b = some u := m b u (ne_of e h d) e
theorem But.trans {H H1 H' : Hp} {a : Addr} (m : But a H H1) (n : But a H1 H') : But a H H' := fun b u h e => n b u h (m b u h e)
theorem But.same {H H1 H' : Hp} {a : Addr} (m : But a H H1) (s : Same H1 H') : But a H H' := fun b u h e => s _ _ (m b u h e)
theorem But.before {H H1 H' : Hp} {a : Addr} (m : But a H1 H') (s : Same H H1) : But a H H' := fun b u h e => m b u h (s _ _ e)
theorem Same.thenBut {H H1 H' : Hp} {a : Addr} (s : Same H H1) (m : But a H1 H') : But a H H' := fun b u h e => m b u h (s _ _ e)
theorem Same.but {H H1 H' : Hp} {a : Addr} (s : Same H H1) (m : But a H1 H') (f : Fr H a) : Same H H' := fun b u e => m b u (ne_of_none e f) (s b u e)
/-- all but a and c stays -/
def But2 (a c : Addr) (H H' : Hp) : Prop := ∀ b u, b ≠ a → b ≠ c → H b = some u → H' b = some u
theorem But2.at {H H' : Hp} {a c b : Addr} {u : HO} (m : But2 a c H H') (n1 : b ≠ a) (n2 : b ≠ c) (e : H b = some u) : H' b = some u := m b u n1 n2 e
theorem But2.kind {H H' : Hp} {a c b : Addr} {o o' u : HO} (m : But2 a c H H') (h : H a = some o) (h' : H c = some o') (e : H b = some u) (d : u ≠ o) (d' : u ≠ o') : H' b = some u := m b u (ne_of e h d) (ne_of e h' d') e
theorem But2.refl {H : Hp} {a c : Addr} : But2 a c H H := fun _ _ _ _ e => e
theorem But.two {H H' : Hp} {a c : Addr} (m : But a H H') : But2 a c H H' := fun b u n _ e => m b u n e
theorem But.two' {H H' : Hp} {a c : Addr} (m : But a H H') : But2 c a H H' := fun b u _ n e => m b u n e
theorem Same.two {H H' : Hp} {a c : Addr} (s : Same H H') : But2 a c H H' := fun b u _ _ e => s b u e
theorem But2.trans {H H1 H' : Hp} {a c : Addr} (m : But2 a c H H1) (n : But2 a c H1 H') : But2 a c H H' := fun b u h1 h2 e => n b u h1 h2 (m b u h1 h2 e)
theorem But2.same {H0 H H' : Hp} {a c : Addr} (m : But2 a c H H') (s : Same H0 H) (f : Fr H0 a) (g : Fr H0 c) : Same H0 H' := fun b u e => m b u (ne_of_none e f) (ne_of_none e g) (s _ _ e)
theorem neF {H : Hp} {a b : Addr} {u : HO} (f : Fr H b) (e : H a = some u) : a ≠ b := ne_of_none e f
theorem neF2 {H : Hp} {a b : Addr} {u : HO} (f : Fr H a) (e : H b = some u) : a ≠ b := (ne_of_none e f).symm
theorem Fr.back {H H' : Hp} {p : Addr} (f : Fr H' p) (s : Same H H') : Fr H p := s.fresh f
/-- a new object -/
def New (o : HO) (H : Hp) (Q : VK) : Prop := ∀ (p : Addr) (H' : Hp), Fr H p → Same H H' → H' p = some o → Q (.ref p) H'
theorem New.out {o : HO} {H : Hp} {Q : VK} (h : New o H Q) (p : Addr) (hp : H p = none) : Q (.ref p) (upd H p o) := h p _ hp ((Same.refl H).new hp) upd_same
/-- the object at a is changed -/
def Put (a : Addr) (o : HO) (H : Hp) (Q : Hp → Prop) : Prop := ∀ H', But a H H' → H' a = some o → Q H'
theorem Put.out {a : Addr} {o : HO} {H : Hp} {Q : Hp → Prop} (h : Put a o H Q) : Q (upd H a o) := h _ But.up upd_same
section
variable {X : Cx} {pos : Pos}
def upE (t : TE) : TE := fun σ H Q => ∃ R : VK, t σ H R ∧ ∀ v H', R v H' → Q v H'
theorem PE.up {e : Expr} {t : TE} (h : PE X e t) : PE X e (upE t) := ⟨fun pins s σ H Q I ⟨R, r, k⟩ => thn (h.run pins s σ H R I r) fun u s1 ⟨v, H1, I1, rv, q⟩ => ⟨v, H1, I1, rv, k v H1 q⟩⟩
theorem PE.imp {e : Expr} {t t' : TE} (h : PE X e t) (k : ∀ σ H Q, t' σ H Q → t σ H Q) : PE X e t' := ⟨fun pins s σ H Q I q => h.run pins s σ H Q I (k σ H Q q)⟩
def upA (t : TA) : TA := fun σ H Q => ∃ R : List V → Hp → Prop, t σ H R ∧ ∀ v H', R v H' → Q v H'
theorem PA.up {es : List Expr} {t : TA} (h : PA X es t) : PA X es (upA t) := ⟨fun pos pins s σ H Q I ⟨R, r, k⟩ => thn (h.run pos pins s σ H R I r) fun u s1 ⟨v, H1, I1, rv, q⟩ => ⟨v, H1, I1, rv, k v H1 q⟩⟩
def upG (t : TG) : TG := fun v σ H Q => ∃ R : St → Hp → Prop, t v σ H R ∧ ∀ σ' H', R σ' H' → Q σ' H'
theorem PG.up {e : Expr} {t : TG} (h : PG X e t) : PG X e (upG t) := ⟨fun pins s σ H v u Q I rv ⟨R, r, k⟩ => thn (h.run pins s σ H v u R I rv r) fun _ s1 ⟨σ1, H1, I1, q⟩ => ⟨σ1, H1, I1, k σ1 H1 q⟩⟩
def upT (t : TT) : TT := fun σ H Q => ∃ R : Bool → Hp → Prop, t σ H R ∧ ∀ b H', R b H' → Q b H'
theorem PTs.up {es : List Expr} {t : TT} (h : PTs X es t) : PTs X es (upT t) := ⟨fun pins s σ H Q I ⟨R, r, k⟩ => thn (h.run pins s σ H R I r) fun b s1 ⟨H1, I1, q⟩ => ⟨H1, I1, k b H1 q⟩⟩
theorem PS.imp {st : Stmt} {t t' : TS} (h : PS X st t) (k : ∀ D σ H, t' D σ H → t D σ H) : PS X st t' := ⟨fun pins s σ H D I q => h.run pins s σ H D I (k D σ H q)⟩
theorem OpR.imp {f : Value → Value → Sem Value} {r r' : R2} (h : OpR X f r) (k : ∀ x y H Q, r' x y H Q → r x y H Q) : OpR X f r' := fun pins s σ H x y v u Q I rx ry q => h pins s σ H x y v u Q I rx ry (k x y H Q q)
theorem CallR.imp {f : Value} {r r' : List V → Hp → VK → Prop} (h : CallR X f r) (k : ∀ xs H Q, r' xs H Q → r xs H Q) : CallR X f r' := fun pins s σ H xs us Q I rx q => h pins s σ H xs us Q I rx (k xs H Q q)
theorem MtR.imp {id : String} {r r' : V → List V → Hp → VK → Prop} (h : MtR X id r) (k : ∀ x xs H Q, r' x xs H Q → r x xs H Q) : MtR X id r' := fun pins s σ H x xs v us Q I rx rs q => h pins s σ H x xs v us Q I rx rs (k x xs H Q q)
theorem SlR.imp {r r' : V → Option Int → Option Int → Hp → VK → Prop} (h : SlR X r) (k : ∀ x lo hi H Q, r' x lo hi H Q → r x lo hi H Q) : SlR X r' := fun pins s σ H x v vl vu lo hi sl Q I rx hs pl pu q => h pins s σ H x v vl vu lo hi sl Q I rx hs pl pu (k x lo hi H Q q)
def tLstK (t : TA) : TE := fun σ H Q => t σ H fun xs H1 => xs.length ≤ sizeLine ∧ New (.lst xs) H1 Q
theorem pe_lstK {es : List Expr} {t : TA} (h : PA X es t) : PE X (.List es pos) (tLstK t) := (pe_lst h.up).imp fun σ H Q q => ⟨_, q, fun xs H1 r => ⟨r.1, r.2.out⟩⟩
def tTupK (t : TA) : TE := fun σ H Q => t σ H fun xs H1 => xs.length ≤ sizeLine ∧ New (.tup xs) H1 Q
theorem pe_tupK {x1} {es : List Expr} {t : TA} (h : PA X es t) : PE X (.Tuple es x1 pos) (tTupK t) := (pe_tup h.up).imp fun σ H Q q => ⟨_, q, fun xs H1 r => ⟨r.1, r.2.out⟩⟩
def tDNewTK : TE := fun _ H Q => New (.dT []) H Q
theorem pe_dnewTK : PE X (.Dict [] [] pos) tDNewTK := pe_dnewT.imp fun σ H Q q => q.out
def tDNewKK : TE := fun _ H Q => New (.dK []) H Q
theorem pe_dnewKK : PE X (.Dict [] [] pos) tDNewKK := pe_dnewK.imp fun σ H Q q => q.out
def rCatK : R2 := fun x y H Q => ∃ l b xs zs, x = .ref l ∧ y = .ref b ∧ H l = some (.lst xs) ∧ H b = some (.lst zs) ∧ xs.length + zs.length ≤ sizeLine ∧ New (.lst (xs ++ zs)) H Q
theorem op_catK : OpR X (binaryOp .Add) rCatK := op_cat.imp fun x y H Q ⟨l, b, xs, zs, e1, e2, h1, h2, z, q⟩ => ⟨l, b, xs, zs, e1, e2, h1, h2, z, q.out⟩
def rRepK : R2 := fun x y H Q => ∃ l k xs, x = .ref l ∧ y = .int k ∧ H l = some (.lst xs) ∧ (-(2 ^ 63) ≤ k ∧ k < 2 ^ 63 ∧ xs.length * k.toNat ≤ sizeLine) ∧ New (.lst (List.replicate k.toNat xs).flatten) H Q
theorem op_repK : OpR X (binaryOp .Mult) rRepK := op_rep.imp fun x y H Q ⟨l, k, xs, e1, e2, h1, ⟨z1, z2, z3⟩, q⟩ => ⟨l, k, xs, e1, e2, h1, z1, z2, z3, q.out⟩
def rSlLK (K : PySem.W.Frag) : V → Option Int → Option Int → Hp → VK → Prop := fun x lo hi H Q => ∃ a xs, x = .ref a ∧ SqL K H a xs ∧ New (.lst (cutV xs lo hi)) H Q
theorem sl_listK : SlR X (rSlLK X.K) := sl_list.imp fun x lo hi H Q ⟨a, xs, e, h, q⟩ => ⟨a, xs, e, h, q.out⟩
def rAppK : V → List V → Hp → VK → Prop := fun x vs H Q => ∃ l xs y, x = .ref l ∧ vs = [y] ∧ H l = some (.lst xs) ∧ xs.length < sizeLine ∧ Put l (.lst (xs ++ [y])) H (Q .non)
theorem mt_appendK : MtR X "list.append" rAppK := MtR.imp mt_append fun x xs H Q ⟨l, ys, y, e1, e2, h, z, q⟩ => ⟨l, ys, y, e1, e2, h, z, q.out⟩
def rExtK : V → List V → Hp → VK → Prop := fun x vs H Q => ∃ l b xs zs, x = .ref l ∧ vs = [.ref b] ∧ H l = some (.lst xs) ∧ H b = some (.lst zs) ∧ xs.length + zs.length ≤ sizeLine ∧ Put l (.lst (xs ++ zs)) H (Q .non)
theorem mt_extendK : MtR X "list.extend" rExtK := MtR.imp mt_extend fun x xs H Q ⟨l, b, ys, zs, e1, e2, h, h2, z, q⟩ => ⟨l, b, ys, zs, e1, e2, h, h2, z, q.out⟩
def rPopLK : V → List V → Hp → VK → Prop := fun x vs H Q => ∃ l xs y, x = .ref l ∧ vs = [] ∧ H l = some (.lst xs) ∧ xs[xs.length - 1]? = some y ∧ Put l (.lst xs.dropLast) H (Q y)
theorem mt_popK : MtR X "list.pop" rPopLK := MtR.imp mt_pop fun x xs H Q ⟨l, ys, y, e1, e2, h, z, q⟩ => ⟨l, ys, y, e1, e2, h, z, q.out⟩
def rPopIK : V → List V → Hp → VK → Prop := fun x vs H Q => ∃ l xs i k y, x = .ref l ∧ vs = [.int i] ∧ H l = some (.lst xs) ∧ (-(2 ^ 63) ≤ i ∧ i < 2 ^ 63) ∧ seqIndex? i xs.length = some k ∧ xs[k]? = some y ∧ Put l (.lst (xs.eraseIdx k)) H (Q y)
theorem mt_popAtK : MtR X "list.pop" rPopIK := MtR.imp mt_popAt fun x xs H Q ⟨l, ys, i, k, y, e1, e2, h, z, h3, h4, q⟩ => ⟨l, ys, i, k, y, e1, e2, h, z.1, z.2, h3, h4, q.out⟩
def rClearK : V → List V → Hp → VK → Prop := fun x vs H Q => ∃ l xs, x = .ref l ∧ vs = [] ∧ H l = some (.lst xs) ∧ Put l (.lst []) H (Q .non)
theorem mt_clearK : MtR X "list.clear" rClearK := MtR.imp mt_clear fun x xs H Q ⟨l, ys, e1, e2, h, q⟩ => ⟨l, ys, e1, e2, h, q.out⟩
def rInsK : V → List V → Hp → VK → Prop := fun x vs H Q => ∃ l xs i y, x = .ref l ∧ vs = [.int i, y] ∧ H l = some (.lst xs) ∧ xs.length < sizeLine ∧ (0 ≤ i ∧ i < 2 ^ 63) ∧ Put l (.lst (xs.take i.toNat ++ [y] ++ xs.drop i.toNat)) H (Q .non)
theorem mt_insertK : MtR X "list.insert" rInsK := MtR.imp mt_insert fun x xs H Q ⟨l, ys, i, y, e1, e2, h, z, hi, q⟩ => ⟨l, ys, i, y, e1, e2, h, z, hi.1, hi.2, q.out⟩
def rSetK : V → V → V → Hp → (Hp → Prop) → Prop := fun o i v H Q => ∃ p xs k j, o = .ref p ∧ i = .int k ∧ H p = some (.lst xs) ∧ ixN xs.length k = some j ∧ Put p (.lst (xs.set j v)) H Q
theorem set_listK : PSet X rSetK := fun pins s σ H o i v ov iv u Q I ro ri rv ⟨p, xs, k, j, e1, e2, h, z, q⟩ => set_list pins s σ H o i v ov iv u Q I ro ri rv ⟨p, xs, k, j, e1, e2, h, z, q.out⟩
def rListK (K : PySem.W.Frag) : List V → Hp → VK → Prop := fun xs H Q => ∃ p ys, xs = [.ref p] ∧ (SqL K H p ys ∨ SqT K H p ys) ∧ New (.lst ys) H Q
theorem call_listK : CallR X (.type "list") (rListK X.K) := CallR.imp call_list_of fun xs H Q ⟨p, ys, e, h, q⟩ => ⟨p, ys, e, h, q.out⟩
def rDictDK : List V → Hp → VK → Prop := fun xs H Q => ∃ (a : Addr) (kvs : List (Key × V)), xs = [.ref a] ∧ H a = some (.dK kvs) ∧ New (.dK kvs) H Q
theorem call_dictDK : CallR X (.type "dict") rDictDK := CallR.imp call_dictD fun xs H Q ⟨a, kvs, e, h, q⟩ => ⟨a, kvs, e, .inl h, q.out⟩
def rListDK : List V → Hp → VK → Prop := fun xs H Q => ∃ (a : Addr) (kvs : List (Key × V)), xs = [.ref a] ∧ H a = some (.dK kvs) ∧ New (.lst (kvs.map fun kv => kV kv.1)) H Q
theorem call_listDK (hc : X.calm = true) : CallR X (.type "list") rListDK := CallR.imp (call_listD hc) fun xs H Q ⟨a, kvs, e, h, q⟩ => ⟨a, kvs, e, .inl h, q.out⟩
def rSlTK (K : PySem.W.Frag) : V → Option Int → Option Int → Hp → VK → Prop := fun x lo hi H Q => ∃ a xs, x = .ref a ∧ SqT K H a xs ∧ (cutV xs lo hi).length ≠ xs.length ∧ New (.tup (cutV xs lo hi)) H Q
def rDivK : List V → Hp → VK → Prop := fun xs H Q => ∃ i j, xs = [.int i, .int j] ∧ CDiv i j ∧ New (.tup [.int (i / j), .int (i % j)]) H Q
theorem call_divmodK : CallR X (.builtin "divmod") rDivK := CallR.imp call_divmod fun xs H Q ⟨i, j, e, h, q⟩ => ⟨i, j, e, h, q.out⟩
def rSplitK : V → List V → Hp → VK → Prop := fun x xs H Q => ∃ a b, x = .str a ∧ xs = [.str b] ∧ (b.length == 0) = false ∧ a.length + 2 ≤ sizeLine ∧ New (.lst ((Txt.split a b).map V.str)) H Q
theorem mt_splitK : MtR X "str.split" rSplitK := MtR.imp mt_split fun x xs H Q ⟨a, b, e1, e2, h1, h2, q⟩ => ⟨a, b, e1, e2, h1, h2, q.out⟩
/-- d[k] = v, the keys tuples -/
def sDPutTK (td ty tv : TE) : TS := fun D σ H => tv σ H fun v H1 => td σ H1 fun x H2 => ty σ H2 fun y H3 => ∃ a b kvs k, x = .ref a ∧ y = .ref b ∧ H3 a = some (.dT kvs) ∧ H3 b = some (.tup (k.map kV)) ∧ kvs.length < sizeLine ∧ Put a (.dT (putK kvs k v)) H3 (D.nx σ)
theorem ps_dputTK {o i value : Expr} {td ty tv : TE} {pos' : Pos} (hu : X.A.units + 1 < cLine) (ho : PE X o td) (hi : PE X i ty) (hv : PE X value tv) (hs : swapsWith value (some (.Subscript o i pos')) pos.line X.env = pure false) :
    PS X (.Assign [.Subscript o i pos'] value pos) (sDPutTK td ty tv) := by
  refine (ps_dput hu ho.up hi.up hv.up hs).imp fun D σ H q => ?_
  refine ⟨_, q, fun v H1 q1 => ⟨_, q1, fun x H2 q2 => ⟨_, q2, fun y H3 q3 => ?_⟩⟩⟩
  obtain ⟨a, b, kvs, k, e1, e2, h1, h2, z, r⟩ := q3
  exact ⟨a, _, e1, by rw [e2]; exact DPut.t h1 h2 z, r.out⟩
def sDPutKK (td ty tv : TE) : TS := fun D σ H => tv σ H fun v H1 => td σ H1 fun x H2 => ty σ H2 fun y H3 => ∃ a kvs k, x = .ref a ∧ y = kV k ∧ H3 a = some (.dK kvs) ∧ kvs.length < sizeLine ∧ Put a (.dK (putK kvs k v)) H3 (D.nx σ)
theorem ps_dputKK {o i value : Expr} {td ty tv : TE} {pos' : Pos} (hu : X.A.units + 1 < cLine) (ho : PE X o td) (hi : PE X i ty) (hv : PE X value tv) (hs : swapsWith value (some (.Subscript o i pos')) pos.line X.env = pure false) :
    PS X (.Assign [.Subscript o i pos'] value pos) (sDPutKK td ty tv) := by
  refine (ps_dput hu ho.up hi.up hv.up hs).imp fun D σ H q => ?_
  refine ⟨_, q, fun v H1 q1 => ⟨_, q1, fun x H2 q2 => ⟨_, q2, fun y H3 q3 => ?_⟩⟩⟩
  obtain ⟨a, kvs, k, e1, e2, h1, z, r⟩ := q3
  exact ⟨a, _, e1, by rw [e2]; exact DPut.k h1 z, r.out⟩
def sFldK (K : PySem.W.Frag) (ta tv : TE) (f : Str) : TS := fun D σ H => tv σ H fun y H1 => ta σ H1 fun x H2 => ∃ a C dx fs, x = .ref a ∧ H2 a = some (.ins C dx fs) ∧ Cls K C ∧ NoAttr K C f ∧ fs.length < 1000 ∧ ∃ fs', putF f y fs = fs' ∧ Put a (.ins C dx fs') H2 (D.nx σ)
theorem ps_fldK {o value : Expr} {ta tv : TE} {f : Str} {pos' : Pos} (ha : PE X o ta) (hv : PE X value tv) (hs : swapsWith value (some (.Attribute o f pos')) pos.line X.env = pure false) : PS X (.Assign [.Attribute o f pos'] value pos) (sFldK X.K ta tv f) := by
  refine (ps_fld ha.up hv.up hs).imp fun D σ H q => ?_
  refine ⟨_, q, fun y H1 q1 => ⟨_, q1, fun x H2 q2 => ?_⟩⟩
  obtain ⟨a, C, dx, fs, e1, h1, c, n, z, fs', e2, r⟩ := q2
  exact ⟨a, C, dx, fs, e1, h1, c, n, z, by rw [e2]; exact r.out⟩
def tMakeK (C : Addr) (sp : Sp) (dvs : List V) (E : XK) (t : TA) : TE := fun σ H Q => t σ H fun vs H1 => ∀ (x dx : Addr) (H2 : Hp), Fr H1 x → Same H1 H2 → H2 x = some (.ins C dx []) →
  sp (.ref x :: (vs ++ dvs)) H2 (fun v H3 => v = .non ∧ Q (.ref x) H3) E
theorem tMakeK.out {C : Addr} {sp : Sp} {dvs : List V} {E : XK} {t : TA} {σ : St} {H : Hp} {Q : VK} (q : tMakeK C sp dvs E t σ H Q) : tMake C sp dvs E (upA t) σ H Q := by
  refine ⟨_, q, fun vs H1 r x dx hx hdx ne => r x dx _ hx ?_ upd_same⟩
  exact ((Same.refl H1).new hdx).new (by rw [upd_ne ne.symm]; exact hx)
theorem pe_makeK {CX : CXT} {k : Nat} {C f : Addr} {fd : FuncData} {ps : List Str} {sp : Sp} {x : Str} {p : Pos} {ds : List Value} {dvs : List V} {E : XK} {e : Expr} {es : List Expr} {t : TA} (M : Mk X.K C f) (F : FnOk X.prog X.w X.K X.mg X.base CX k f fd ps sp) (hr : Room (k + 1) X.A) (hg : Gl X x) (hm : X.mg x = some (.ref C)) (hb : Binds X.K fd ps ds) (hd : Vals dvs ds) (hx : Passes CX X E)
    (ha : PA X (e :: es) t) (hdb : (x == ("__debug__" : Str)) = false := by decide) (he : starEach (e :: es) X.env = (false, eval e X.env) :: starEach es X.env := by rfl) (hpl : (backTo pos (starEach es X.env)).any (·.1) = false := by rfl) :
    PE X (.Call (.Name x p) (e :: es) [] pos) (tMakeK C sp dvs E t) := (pe_make M F hr hg hm hb hd hx ha.up hdb he hpl).imp fun σ H Q q => q.out
theorem pe_make0K {CX : CXT} {k : Nat} {C f : Addr} {fd : FuncData} {ps : List Str} {sp : Sp} {x : Str} {p : Pos} {ds : List Value} {dvs : List V} {E : XK} (M : Mk X.K C f) (F : FnOk X.prog X.w X.K X.mg X.base CX k f fd ps sp) (hr : Room (k + 1) X.A) (hg : Gl X x) (hm : X.mg x = some (.ref C)) (hb : Binds X.K fd ps ds) (hd : Vals dvs ds) (hx : Passes CX X E)
    (hdb : (x == ("__debug__" : Str)) = false := by decide) : PE X (.Call (.Name x p) [] [] pos) (tMakeK C sp dvs E tNil) := (pe_make0 M F hr hg hm hb hd hx hdb).imp fun σ H Q q x dx hx hdx ne => q x dx _ hx (((Same.refl H).new hdx).new (by rw [upd_ne ne.symm]; exact hx)) upd_same
end
/-! ### loops and comprehensions over them -/
section
variable {K : PySem.W.Frag} {a : Addr} {xs : List V} {g : TG} {tt : TT} {te : TE} {vs : List Nat} {σ : St} {H1 : Hp} {D : Addr} {Qd : Hp → Prop}
/-- one turn of a comprehension -/
def LcTurn (σ : St) (vs : List Nat) (g : TG) (tt : TT) (te : TE) (D : Addr) (x : V) (H : Hp) (P : Hp → Prop) : Prop :=
  g x (wipe σ vs) H fun σ2 H2 => wipe σ2 vs = wipe σ vs ∧ tt σ2 H2 fun b H3 => if b = true then te σ2 H3 fun y H4 => ∃ acc, H4 D = some (.lst acc) ∧ acc.length < sizeLine ∧ Put D (.lst (acc ++ [y])) H4 P else P H3
theorem LcTurn.out {x : V} {H : Hp} {P : Hp → Prop} (h : LcTurn σ vs g tt te D x H P) : upG g x (wipe σ vs) H fun σ2 H2 => wipe σ2 vs = wipe σ vs ∧ upT tt σ2 H2 fun b H3 =>
    if b = true then upE te σ2 H3 fun y H4 => ∃ acc, H4 D = some (.lst acc) ∧ acc.length < sizeLine ∧ P (upd H4 D (.lst (acc ++ [y]))) else P H3 := by
  refine ⟨_, h, fun σ2 H2 ⟨w, q⟩ => ⟨w, _, q, fun b H3 r => ?_⟩⟩
  cases b with
  | true =>
    rw [if_pos rfl] at r ⊢
    exact ⟨_, r, fun y H4 ⟨acc, h1, h2, h3⟩ => ⟨acc, h1, h2, h3.out⟩⟩
  | false =>
    rw [if_neg Bool.false_ne_true] at r ⊢
    exact r
theorem lcK_list (hD : H1 D = none) (Pv : Nat → Hp → Prop) (h0 : ∀ H', Fr H1 D → Same H1 H' → H' D = some (.lst []) → Pv 0 H') (hl : ∀ i H, i ≤ xs.length → Pv i H → SqL K H a xs) (hs : ∀ i x H, xs[i]? = some x → Pv i H → LcTurn σ vs g tt te D x H (Pv (i + 1))) (hd : ∀ H, Pv xs.length H → Qd H) :
    ∃ W : Nat → Nat → Hp → Prop, (∃ m, W 0 m (upd H1 D (.lst []))) ∧ ∀ i m H, W i m H →
      ((Itl K a).stop i H ∧ Qd H) ∨ ((Itl K a).go i H ∧ ∃ Nx : Hp → Prop, (∀ H', Nx H' → ∃ m', m' < m ∧ W (i + 1) m' H') ∧ ∀ x H', (Itl K a).yld i H x H' → upG g x (wipe σ vs) H' fun σ2 H2 => wipe σ2 vs = wipe σ vs ∧ upT tt σ2 H2 fun b H3 =>
        if b = true then upE te σ2 H3 fun y H4 => ∃ acc, H4 D = some (.lst acc) ∧ acc.length < sizeLine ∧ Nx (upd H4 D (.lst (acc ++ [y]))) else Nx H3) :=
  lc_list Pv (h0 _ hD ((Same.refl H1).new hD) upd_same) hl (fun i x H hx p => (hs i x H hx p).out) hd
theorem lcK_tup (hD : H1 D = none) (Pv : Nat → Hp → Prop) (h0 : ∀ H', Fr H1 D → Same H1 H' → H' D = some (.lst []) → Pv 0 H') (hl : ∀ i H, i ≤ xs.length → Pv i H → SqT K H a xs) (hs : ∀ i x H, xs[i]? = some x → Pv i H → LcTurn σ vs g tt te D x H (Pv (i + 1))) (hd : ∀ H, Pv xs.length H → Qd H) :
    ∃ W : Nat → Nat → Hp → Prop, (∃ m, W 0 m (upd H1 D (.lst []))) ∧ ∀ i m H, W i m H →
      ((Itt K a).stop i H ∧ Qd H) ∨ ((Itt K a).go i H ∧ ∃ Nx : Hp → Prop, (∀ H', Nx H' → ∃ m', m' < m ∧ W (i + 1) m' H') ∧ ∀ x H', (Itt K a).yld i H x H' → upG g x (wipe σ vs) H' fun σ2 H2 => wipe σ2 vs = wipe σ vs ∧ upT tt σ2 H2 fun b H3 =>
        if b = true then upE te σ2 H3 fun y H4 => ∃ acc, H4 D = some (.lst acc) ∧ acc.length < sizeLine ∧ Nx (upd H4 D (.lst (acc ++ [y]))) else Nx H3) :=
  lc_tup Pv (h0 _ hD ((Same.refl H1).new hD) upd_same) hl (fun i x H hx p => (hs i x H hx p).out) hd
theorem lcK_range {lo : Int} {n : Nat} (hD : H1 D = none) (Pv : Nat → Hp → Prop) (h0 : ∀ H', Fr H1 D → Same H1 H' → H' D = some (.lst []) → Pv 0 H') (hs : ∀ i H, i < n → Pv i H → LcTurn σ vs g tt te D (.int (lo + i)) H (Pv (i + 1))) (hd : ∀ H, Pv n H → Qd H) :
    ∃ W : Nat → Nat → Hp → Prop, (∃ m, W 0 m (upd H1 D (.lst []))) ∧ ∀ i m H, W i m H →
      ((Itr lo n).stop i H ∧ Qd H) ∨ ((Itr lo n).go i H ∧ ∃ Nx : Hp → Prop, (∀ H', Nx H' → ∃ m', m' < m ∧ W (i + 1) m' H') ∧ ∀ x H', (Itr lo n).yld i H x H' → upG g x (wipe σ vs) H' fun σ2 H2 => wipe σ2 vs = wipe σ vs ∧ upT tt σ2 H2 fun b H3 =>
        if b = true then upE te σ2 H3 fun y H4 => ∃ acc, H4 D = some (.lst acc) ∧ acc.length < sizeLine ∧ Nx (upd H4 D (.lst (acc ++ [y]))) else Nx H3) :=
  lc_range Pv (h0 _ hD ((Same.refl H1).new hD) upd_same) (fun i H hx p => (hs i H hx p).out) hd
/-- a new pair is unpacked into two names -/
theorem gTup2 {x y : V} {T : Addr} {t : TGs} {H : Hp} {Q : St → Hp → Prop} (hT : H T = none) (h : ∀ H', Same H H' → t [x, y] σ H' Q) : gTup K 2 t (.ref T) σ (upd H T (.tup [x, y])) Q :=
  ⟨T, _, rfl, .of upd_same, rfl, h _ ((Same.refl H).new hT)⟩
end
theorem ins_ne {C C' d d' : Addr} {fs gs : List (Str × V)} (h : fs.length ≠ gs.length) : HO.ins C d fs ≠ HO.ins C' d' gs := fun e => h (by
  injection e with _ _ e
  rw [e])
theorem lkE {a b : Str} {v : V} {r : List (Str × V)} (h : (b == a) = true) : ((a, v) :: r).lookup b = some v := by
  rw [List.lookup_cons, h]
theorem lkN {a b : Str} {v : V} {r : List (Str × V)} {o : Option V} (h : (b == a) = false) (q : r.lookup b = o) : ((a, v) :: r).lookup b = o := by
  rw [List.lookup_cons, h]
  exact q
theorem pfNil {f : Str} {v : V} : putF f v [] = [(f, v)] := rfl
theorem pfE {f g : Str} {v x : V} {r : List (Str × V)} (h : g = f) : putF f v ((g, x) :: r) = (g, v) :: r := if_pos h
theorem pfN {f g : Str} {v x : V} {r r' : List (Str × V)} (h : g ≠ f) (q : putF f v r = r') : putF f v ((g, x) :: r) = (g, x) :: r' := by
  rw [← q]
  exact if_neg h
theorem upd_self {H : Hp} {a : Addr} {o : HO} (h : H a = some o) : upd H a o = H := by
  funext b
  by_cases e : b = a
  · rw [e, upd_same, h]
  · rw [upd_ne e]
/-- a loop whose walk has nothing to give -/
theorem for_none {J : It} {g : TG} {tb : TS} {D : Ends} {σ : St} {H : Hp} (h : J.stop 0 H) (q : D.nx σ H) : ∃ W : Nat → Nat → St → Hp → Prop, (∃ m, W 0 m σ H) ∧ ∀ i m σ H, W i m σ H →
    (J.stop i H ∧ D.nx σ H) ∨ (J.go i H ∧ ∃ N : St → Hp → Prop, (∀ σ' H', N σ' H' → ∃ m', m' < m ∧ W (i + 1) m' σ' H') ∧ ∀ x H', J.yld i H x H' → g x σ H' fun σ2 H2 => tb { D with nx := N, ct := N, bk := D.nx } σ2 H2) := by
  refine ⟨fun i _ σ' H' => i = 0 ∧ σ' = σ ∧ H' = H, ⟨0, rfl, rfl, rfl⟩, ?_⟩
  rintro i m σ' H' ⟨rfl, rfl, rfl⟩
  exact .inl ⟨h, q⟩
theorem lc_none {J : It} {g : TG} {tt : TT} {te : TE} {vs : List Nat} {σ : St} {H1 : Hp} {D : Addr} {Qd : Hp → Prop} (h : J.stop 0 (upd H1 D (.lst []))) (q : Qd (upd H1 D (.lst []))) :
    ∃ W : Nat → Nat → Hp → Prop, (∃ m, W 0 m (upd H1 D (.lst []))) ∧ ∀ i m H, W i m H →
      (J.stop i H ∧ Qd H) ∨ (J.go i H ∧ ∃ Nx : Hp → Prop, (∀ H', Nx H' → ∃ m', m' < m ∧ W (i + 1) m' H') ∧ ∀ x H', J.yld i H x H' → g x (wipe σ vs) H' fun σ2 H2 => wipe σ2 vs = wipe σ vs ∧ tt σ2 H2 fun b H3 =>
        if b = true then te σ2 H3 fun y H4 => ∃ acc, H4 D = some (.lst acc) ∧ acc.length < sizeLine ∧ Nx (upd H4 D (.lst (acc ++ [y]))) else Nx H3) := by
  refine ⟨fun i _ H' => i = 0 ∧ H' = upd H1 D (.lst []), ⟨0, rfl, rfl⟩, ?_⟩
  rintro i m H' ⟨rfl, rfl⟩
  exact .inl ⟨h, q⟩
/-- an empty dict walked by its keys, under its lock -/
theorem lock_keys0 {td : TE} {g : TG} {tb : TS} {D : Ends} {σ : St} {H : Hp} {d : Addr} (hd : H d = some (.dK [])) (hv : ∀ od Q, Q (.ref d) (upd H d (.frz od (.dK []))) → td σ (upd H d (.frz od (.dK []))) Q) (q : D.nx σ H) : tLock (tFor (iKeys td) g tb) D σ H := by
  refine ⟨d, _, hd, trivial, fun od => hv od _ ⟨d, od, rfl, .inl ⟨[], upd_same, ?_⟩⟩⟩
  refine for_none ⟨upd_same, Nat.le_refl _⟩ ⟨upd_same, ?_⟩
  rw [upd_upd, upd_self hd]
  exact q
theorem lock_vals0 {td : TE} {g : TG} {tb : TS} {D : Ends} {σ : St} {H : Hp} {d : Addr} (hd : H d = some (.dK [])) (hv : ∀ od Q, Q (.ref d) (upd H d (.frz od (.dK []))) → td σ (upd H d (.frz od (.dK []))) Q) (q : D.nx σ H) : tLock (tFor (iVals td) g tb) D σ H := by
  refine ⟨d, _, hd, trivial, fun od => hv od _ ⟨d, od, [], rfl, upd_same, ?_⟩⟩
  refine for_none ⟨upd_same, Nat.le_refl _⟩ ⟨upd_same, ?_⟩
  rw [upd_upd, upd_self hd]
  exact q
theorem lock_lc0 {td te : TE} {g : TG} {tt : TT} {vs : List Nat} {σ : St} {H : Hp} {d : Addr} {Q : VK} (hd : H d = some (.dK [])) (hv : ∀ od Q, Q (.ref d) (upd H d (.frz od (.dK []))) → td σ (upd H d (.frz od (.dK []))) Q) (q : New (.lst []) H Q) : tLockE (tLc (iKeys td) g tt te vs) σ H Q := by
  refine ⟨d, _, hd, trivial, fun od => hv od _ ⟨d, od, rfl, .inl ⟨[], upd_same, fun D hD => ?_⟩⟩⟩
  have nd : D ≠ d := (ne_of_none upd_same hD).symm
  have hD0 : H D = none := by
    rw [upd_ne nd] at hD
    exact hD
  refine lc_none ⟨by rw [upd_ne nd.symm]; exact upd_same, Nat.le_refl _⟩ ⟨by rw [upd_ne nd.symm]; exact upd_same, ?_⟩
  have e : upd (upd (upd H d (.frz od (.dK []))) D (.lst [])) d (.dK []) = upd H D (.lst []) := by
    funext b
    by_cases e1 : b = d
    · rw [e1, upd_same, upd_ne nd.symm, hd]
    · rw [upd_ne e1]
      by_cases e2 : b = D
      · rw [e2, upd_same, upd_same]
      · rw [upd_ne e2, upd_ne e2, upd_ne e1]
  rw [e]
  exact q.out D hD0
theorem PT.up {X : Cx} {e : Expr} {t : TT} (h : PT X e t) : PT X e (upT t) := ⟨fun pins s σ H Q I ⟨R, r, k⟩ => thn (h.run pins s σ H R I r) fun b s1 ⟨H1, I1, q⟩ => ⟨H1, I1, k b H1 q⟩⟩
/-- a while, its turns counted down by W's number -/
theorem whileN {c : TT} {tb : TS} {D : Ends} {σ : St} {H : Hp} (W : Nat → St → Hp → Prop) (m0 : Nat) (h0 : W m0 σ H)
    (hs : ∀ m σ H, W m σ H → c σ H fun b H1 => if b = true then tb { D with nx := fun σ' H' => ∃ m', m' < m ∧ W m' σ' H', ct := fun σ' H' => ∃ m', m' < m ∧ W m' σ' H', bk := D.nx } σ H1 else D.nx σ H1) : tWhile (upT c) tb D σ H := by
  refine ⟨W, ⟨m0, h0⟩, fun m σ H w => ⟨_, hs m σ H w, fun b H1 q => ?_⟩⟩
  cases b with
  | true =>
    rw [if_pos rfl] at q ⊢
    exact ⟨_, fun σ' H' h => h, q⟩
  | false =>
    rw [if_neg Bool.false_ne_true] at q ⊢
    exact q
theorem PE.or {X : Cx} {e : Expr} {t u : TE} (h1 : PE X e t) (h2 : PE X e u) : PE X e (fun σ H Q => t σ H Q ∨ u σ H Q) := ⟨fun pins s σ H Q I q => q.elim (h1.run pins s σ H Q I) (h2.run pins s σ H Q I)⟩
theorem szlt {n : Nat} (h : n ≤ 100000) : n < sizeLine := Nat.lt_of_le_of_lt h (by decide)
section
variable {X : Cx} {CX : CXT} {k : Nat} {f : Addr} {fd : FuncData} {ps : List Str} {sp : Sp} {E : St → XK} {x : Str} {p pos : Pos} {e : Expr} {es : List Expr} {t : TA} {ds : List Value} {dvs : List V}
/-- a call in a try, the last parameters left out -/
theorem run_fnSd {pins : List (Addr × Obj)} {σ : St} {H : Hp} {s : Shared} {Q : VK} {us : List Value} {vs : List V} (F : FnOk X.prog X.w X.K X.mg X.base CX k f fd ps sp) (hr : Room k X.A) (hb : Binds X.K fd ps ds) (hd : Vals dvs ds) (hx : PassesAt CX X σ (E σ))
    (I : Inv X pins σ H s) (r : Vals vs us) (h : sp (vs ++ dvs) H Q (E σ)) : wpAny (model X.prog X.w) X.A (call (.ref f) us) (EP X pins σ Q) X.xe s := by
  have hl : us.length + ds.length = ps.length := by
    rw [← r.length, ← hd.length, ← List.length_append]
    exact F.len _ _ _ _ h
  refine wpAny_call (codeAny_mono (F.run X.A X.stack s H ⟨us, []⟩ (us ++ ds) (vs ++ dvs) Q (E σ) hr I.env0 (hb s us I.kIn (by first | exact hl | (rw [List.length_append]; exact hl))) (r.append hd) h) fun r s' hq => ?_)
  cases r with
  | error e => exact hx pins H s e s' I hq
  | ok fl =>
    cases fl with
    | ret u => exact I.after hq
    | next => exact False.elim hq
    | brk => exact False.elim hq
    | cont => exact False.elim hq
def tCallSd (sp : Sp) (dvs : List V) (E : St → XK) (t : TA) : TE := fun σ H Q => t σ H fun vs H1 => sp (vs ++ dvs) H1 Q (E σ)
theorem pe_callSd (F : FnOk X.prog X.w X.K X.mg X.base CX k f fd ps sp) (hr : Room k X.A) (hg : Gl X x) (hm : X.mg x = some (.ref f)) (hk : PySem.W.keepIn X.K (.ref f) = true) (hb : Binds X.K fd ps ds) (hd : Vals dvs ds) (hx : ∀ σ, PassesAt CX X σ (E σ))
    (ha : PA X (e :: es) t) (hdb : (x == ("__debug__" : Str)) = false := by decide) (he : starEach (e :: es) X.env = (false, eval e X.env) :: starEach es X.env := by rfl) (hpl : (backTo pos (starEach es X.env)).any (·.1) = false := by rfl) :
    PE X (.Call (.Name x p) (e :: es) [] pos) (tCallSd sp dvs E t) := by
  refine ⟨fun pins s σ H Q I h => ?_⟩
  refine wpAny_Call_Name_kw (ld_glob I hg hm ?_ hdb)
  refine PySem.W.callWith_K (h₀ := X.base) I.ok.mod.kin hk (thn (ha.run pos pins s σ H _ I h) fun us s1 ⟨vs, H1, I1, r, q⟩ => ⟨I1.kIn, ?_⟩) he hpl
  exact run_fnSd F hr hb hd (hx σ) I1 r q
def rCatTK (K : PySem.W.Frag) : R2 := fun x y H Q => ∃ a b xs ys, x = .ref a ∧ y = .ref b ∧ SqT K H a xs ∧ SqT K H b ys ∧ xs ≠ [] ∧ ys ≠ [] ∧ xs.length + ys.length ≤ sizeLine ∧ New (.tup (xs ++ ys)) H Q
theorem op_catTK : OpR X (binaryOp .Add) (rCatTK X.K) := OpR.imp op_catT fun x y H Q ⟨a, b, xs, ys, e1, e2, h1, h2, n1, n2, z, q⟩ => ⟨a, b, xs, ys, e1, e2, h1, h2, n1, z, fun e => absurd e n2, fun _ => q.out⟩
def rTupK (K : PySem.W.Frag) : List V → Hp → VK → Prop := fun xs H Q => ∃ p ys, xs = [.ref p] ∧ SqL K H p ys ∧ New (.tup ys) H Q
theorem call_tupleK : CallR X (.type "tuple") (rTupK X.K) := CallR.imp call_tuple_of fun xs H Q ⟨p, ys, e, h, q⟩ => ⟨p, ys, e, .inl ⟨h, q.out⟩⟩
end
end L2
/-! errors whose class has an __init__ of its own: made, asked by isinstance -/
namespace PySem.W
open PySem PySem.Spec PySem.Calls PyProof.Rows
theorem g94_found {K : Frag} {C : Addr} {od : Option Obj} {nm : Str} {at_ gt : Value} (c : (clsIn K C).isSome = true) (f : findIn K (.ref C) nm = some (some at_)) (g : specialIn K at_ "__get__" = some (some gt)) (t : takesIn K at_ = some true) : findObj K C od nm = some (.bind gt at_) := by
  cases hc : clsIn K C with
  | none =>
    rw [hc] at c
    cases c
  | some cd => simp [findObj, hc, f, g, t]
section
variable {prog : Program} {w : World} {A : Around} {E : Value → Shared → Prop} {K : Frag} {x D : Addr} {ox : Obj} {od : Option Obj}
theorem g94_isCls (C : L2.ExcC K D) : (clsIn K D).isSome = true := by
  obtain ⟨cd, hc, _⟩ := any_some C.hd
  rw [hc]
  rfl
/-- e.__class__ of such an error, whether it has its dict or not -/
theorem g94_class {Q : Option Value → Shared → Prop} {s : Shared} (C : L2.ExcC K D) (X : K.In s.heap) (J : InstAt s.heap x ox D od) (q : Q (some (.ref D)) { s with toks := s.toks + 1 }) :
    wpAny (model prog w) A (getAttr? (.ref x) "__class__") Q E s := by
  obtain ⟨hp, g, d, t, os⟩ := s
  have T0 := J.type (M := model prog w)
  have T1 := looks_findIn (M := model prog w) X C.hg
  have T2 := looks_findIn (M := model prog w) X C.hk
  have T3 := looks_find (M := model prog w) X J (g94_found (od := od) (g94_isCls C) C.ha C.hn C.ht)
  have bex : Looks (model prog w) hp (isInstance (.ref x) (.type "BaseException")) true := T0.andThen (looks_subIn X C.hs)
  have n1 : (Value.builtin "BaseException.__getattribute__" == Value.builtin "object.__getattribute__") = false := by decide +kernel
  have n2 : onTheHeap (Value.ref D) = true := by rfl
  unfold getAttr? getAttrBy? getAttrBy
  refine wpAny_bind (wpAny_mkText (wpAny_bind (wpAny_attempt (wpAny_holding (wpAny_bind (T0.at (wpAny_bind (T1.at ?_))))))))
  show wpAny _ _ (if (onTheHeap (Value.ref D) && Value.builtin "BaseException.__getattribute__" == Value.builtin "object.__getattribute__") = true then _ else _) _ _ _
  rw [n1, Bool.and_false, if_neg Bool.false_ne_true]
  unfold getAttrByItsOwn hookBefore
  refine wpAny_bind ?_
  rw [if_pos n2]
  refine T2.at ?_
  refine wpAny_bind (wpAny_attempt (wpAny_holding ?_))
  unfold callGetattribute
  rw [if_neg (show ¬ (false && onTheHeap (Value.builtin "BaseException.__getattribute__")) = true from Bool.false_ne_true)]
  unfold boundAndCalled
  rw [PySem.F.excAttr_ValueError.ga.bind (.ref x)]
  refine wpAny_bind (wpAny_pure (?_ : wpAny _ _ (call (.builtin "BaseException.__getattribute__") [.ref x, .str "__class__" t]) _ _ _))
  refine wpAny_call (codeAny_call_builtin PySem.F.excAttr_ValueError.ga.plain PySem.F.entry_bexc_ga (check_slot (i := "BaseException.__getattribute__") (owner := "BaseException") (n := "__getattribute__") (rest := [.str "__class__" t]) (by decide +kernel) (by decide +kernel) bex (PySem.F.args_bexc_ga (.ref x) (.str "__class__" t)) ?_))
  unfold Builtin.«object.__getattribute__»
  refine wpAny_bind (wpAny_of_eq (a := ((Value.ref x : Value), [Value.str "__class__" t])) (by first | rfl | (simp only [slotArgs]; rfl)) (wpAny_bind (wpAny_pure (wpAny_bind (T0.at (wpAny_bind (T3.at ?_)))))))
  show wpAny _ _ (holding [Value.builtin "object.__class__"] (call (.builtin "getset_descriptor.__get__") [.builtin "object.__class__", .ref x, .ref D]) >>= ret) _ _ _
  refine wpAny_bind (wpAny_holding (wpAny_call (class_get (s := ⟨hp, g, d, t + 1, os⟩) (ox := ox) (od := od) X J C.hm (wpAny_pure ?_))))
  show wpAny _ _ (handedOut (.ref D)) _ _ _
  rw [handedOut_of (v := .ref D) rfl]
  first
    | exact wpAny_pure (wpAny_pure q)
    | exact wpAny_pure q
    | exact wpAny_pure (wpAny_bind (wpAny_pure (wpAny_pure q)))
theorem g94_kit (C : L2.ExcC K D) : KitX K (.ref x) (.ref D) (fun h => ∃ od, InstAt h x ox D od) where
  ty := fun _ _ _ ⟨_, J⟩ => J.type
  it := fun _ _ X _ A' Q' E' s' k q => by
    obtain ⟨cd, hc, _⟩ := any_some C.hd
    unfold clsIn at hc
    split at hc
    · rename_i ho
      unfold isType loadHead
      exact wpAny_bind (wpAny_loadPart (k _ _ (X _ _ ho)) (wpAny_pure q))
    · cases hc
  ne := fun h tp dd its n sl X htp => Bool.eq_false_iff.mpr fun e => by
    obtain ⟨cd, hc, _⟩ := any_some C.hd
    obtain rfl : D = tp := Value.ref.inj (beq_iff_eq.mp e)
    unfold clsIn at hc
    split at hc
    · rename_i ho
      cases (X _ _ ho).symm.trans htp
    · cases hc
  ca := fun X ⟨_, J⟩ q => g94_class C X J q
end
end PySem.W
namespace L2
open PySem PySem.Spec PyProof.Rows
/-- isinstance(e, c), e the exception in the suite, with a dict -/
def rIsD (K : PySem.W.Frag) (cls : Value) (dc : Option Addr) (a : Addr) : List V → Hp → VK → Prop := fun xs H Q => ∃ (D dd : Addr) (fs : List (Str × V)), cls = .ref D ∧ dc = some dd ∧ ExcC K D ∧ H dd = some (.xd fs) ∧ rIsE K D a xs H Q
theorem call_isD {X : Cx} {a : Addr} {cls : Value} {dc : Option Addr} {oe : Obj} {pn : List (Addr × Obj)} (hz : Zc cls dc oe) (hf : ∃ vs, oe.data = .fields vs) : CallR (X.suite a ((a, oe) :: pn)) (.builtin "isinstance") (rIsD X.K cls dc a) := by
  intro pins s σ H xs us Q I r h
  obtain ⟨D, dd, fs, rfl, rfl, C, hd, c, cv, b, rfl, hcv, e, q⟩ := h
  obtain ⟨u, v, rfl, rx, rt⟩ := vals2 r
  obtain rfl : u = Value.ref a := rx
  obtain rfl := hcv _ rt
  obtain ⟨hget, _⟩ := I.pin (a, oe) (List.mem_append.mpr (.inl List.mem_cons_self))
  obtain ⟨vs, hv⟩ := hf
  obtain ⟨mA, hns, _⟩ : ObjOk X.prog X.w H s.heap dd (.xd fs) := I.hok dd _ hd
  obtain ⟨od, ho, _⟩ := lookIn_ns hns
  have J : ∃ od, PySem.W.InstAt s.heap a oe D od := ⟨some od, hget, hz.1, by unfold PySem.W.notCls; rw [hv] <;> rfl, by rw [hz.2]; exact ho⟩
  exact PySem.W.kia_one (PySem.W.g94_kit C) I.kIn J e (fun z => nomatch z) fun tk => ⟨.bl b, H, I.kept (t' := tk) fun _ _ z => z, rfl, q⟩
/-- what an own base's __init__ is -/
structure OwnI (K : PySem.W.Frag) (D : Addr) : Prop where
  rd : PySem.W.readsIn K D (.type "type") = true
  ga : PySem.W.specialIn K (.ref D) "__getattribute__" = some (some (.builtin "type.__getattribute__"))
  at_ : PySem.W.findCls K (.ref D) (.type "type") "__init__" = some (.val (.builtin "ValueError.__init__"))
def ownIB (K : PySem.W.Frag) (x : Str) : Bool := PySem.W.readsIn K (He.ga K x) (.type "type") && (decide (PySem.W.specialIn K (.ref (He.ga K x)) "__getattribute__" = some (some (.builtin "type.__getattribute__"))) && (match PySem.W.findCls K (.ref (He.ga K x)) (.type "type") "__init__" with
  | some (.val (.builtin n)) => n == "ValueError.__init__"
  | _ => false))
theorem ownIB_ok {K : PySem.W.Frag} {x : Str} (h : ownIB K x = true) : OwnI K (He.ga K x) := by
  obtain ⟨h1, h⟩ := He.ba h
  obtain ⟨h2, h3⟩ := He.ba h
  refine ⟨h1, of_decide_eq_true h2, ?_⟩
  split at h3
  · rename_i n e
    rw [e, beq_iff_eq.mp h3]
  · cases h3
section
variable {X : Cx} {e : Expr} {es : List Expr} {ta : TA} {x : Str} {D : Addr} {p1 p2 pos : Pos}
/-- B.__init__(self, ..), B an own class that takes ValueError's -/
theorem pe_ownInit {pl : Sem Bool} (T : OwnI X.K D) (hg : Gl X x) (hm : X.mg x = some (.ref D)) (ha : PA X (e :: es) ta) (hdb : (x == ("__debug__" : Str)) = false := by decide)
    (hc : eval (.Call (.Attribute (.Name x p1) "__init__" p2) (e :: es) [] pos) X.env = (do
      let ov ← eval (.Name x p1) X.env
      standAt p2.atName
      let (f, first) ← holding [ov] (getMethod ov "__init__" pl)
      callWith pos f first (backTo pos (starEach (e :: es) X.env)) (backToKw pos (keywordEach [] X.env))) := by rfl)
    (he : starEach (e :: es) X.env = (false, eval e X.env) :: starEach es X.env := by rfl) (hpl : (backTo pos (starEach es X.env)).any (·.1) = false := by rfl) :
    PE X (.Call (.Attribute (.Name x p1) "__init__" p2) (e :: es) [] pos) (tVeI X.K ta) := by
  constructor
  intro pins s σ H Q I h
  refine PySem.W.methodCall_KW (ld_glob I hg hm (PySem.W.method_cls I.kIn T.ga (PySem.W.cls_value I.kIn T.rd T.at_ (by decide +kernel) ?_)) hdb) hc
  show wpAny _ _ (callWith pos (Value.builtin "ValueError.__init__") [] (backTo pos (starEach (e :: es) X.env)) []) _ _ _
  refine PyProof.Rows.callWith_method1 (thn (ha.run pos pins _ σ H _ (I.tok _) h) fun us s1 ⟨vs, H1, I1, r1, a, C, ws, ev, hl, T1, ea, q⟩ => ?_) he hpl
  subst ev
  match us, r1 with
  | u0 :: ur, .cons ra rw' =>
    obtain rfl : u0 = Value.ref a := ra
    exact oinit_ok T1 I1 ea (by rw [← Paired.length rw', sizeLine_eq]; omega) fun s' J => ⟨.non, H1, J, rfl, q⟩
end
/-- what the written part must say of an error class with its own __init__ -/
def oexB (K : PySem.W.Frag) (x : Str) : Bool := (match K.lookup (He.ga K x) with
  | some ⟨.type "type", _, .cls cd, sl⟩ => (match cd.mro, sl.toList with
    | .ref c :: bm, [_, _, _, _, some (.builtin n), _] => c == He.ga K x && (n == "ValueError.__new__" && (cd.hasDict && (!cd.hasDel && PySem.HandSPX.refsVE bm)))
    | _, _ => false)
  | _ => false) && (decide (PySem.W.findIn K (.ref (He.ga K x)) "__setattr__" = some (some (.builtin "object.__setattr__"))) && (decide (PySem.W.subIn K (.ref (He.ga K x)) (.type "BaseException") = some true) &&
  (decide (PySem.W.typeIn K (.ref (He.ga K x)) = some (.type "type")) && PySem.W.keepIn K (.ref (He.ga K x)))))
theorem oexB_ok {K : PySem.W.Frag} {x : Str} (h : oexB K x = true) : OexC K (He.ga K x) := by
  obtain ⟨h1, h⟩ := He.ba h
  obtain ⟨h2, h⟩ := He.ba h
  obtain ⟨h3, h⟩ := He.ba h
  obtain ⟨h4, h5⟩ := He.ba h
  refine ⟨?_, of_decide_eq_true h2, of_decide_eq_true h3, of_decide_eq_true h4, h5⟩
  split at h1
  · rename_i dd cd sl ho
    split at h1
    · rename_i c bm k0 k1 k2 k3 n k5 hm hs
      obtain ⟨e1, h1⟩ := He.ba h1
      obtain ⟨e2, h1⟩ := He.ba h1
      obtain ⟨e3, h1⟩ := He.ba h1
      obtain ⟨e4, e5⟩ := He.ba h1
      obtain rfl := beq_iff_eq.mp e1
      obtain rfl := beq_iff_eq.mp e2
      obtain ⟨nm, bs, mro, ns, q, hd, sn, sub, ab, col, del⟩ := cd
      dsimp only at hm e3 e4
      subst hm e3
      obtain rfl : del = false := by
        cases del with
        | true => cases e4
        | false => rfl
      obtain ⟨l⟩ := sl
      dsimp only at hs
      subst hs
      exact ⟨nm, q, ns, bs, bm, sn, sub, ab, col, dd, k0, k1, k2, k3, k5, ho, e5⟩
    · cases h1
  · cases h1
end L2

/-! s.ljust(n, sign) -/
namespace L2
open PySem PySem.Spec PyProof.Rows
theorem mt_ljustF {X : Cx} : MtR X "str.ljust" (fun x xs H Q => ∃ (a b : Str) (i : Int), x = .str a ∧ xs = [.int i, .str b] ∧ PadOk i = true ∧ b.length = 1 ∧ Q (.str (Txt.ljustF a i (b.cps.getD 0 0))) H) := by
  intro pins s σ H x xs v us Q I rx rs h
  obtain ⟨a, b, i, rfl, rfl, hp, hb, q⟩ := h
  obtain ⟨t, rfl⟩ := rx
  obtain ⟨u, z, rfl, ⟨t1, rfl⟩, ⟨t2, rfl⟩⟩ := vals2 rs
  exact PyProof.Rows.ljust_fill hp hb fun t' k => ⟨.str _, H, I.tok k, ⟨t', rfl⟩, q⟩
end L2

/-! a head whose written part holds the interpreter's own statics, too -/
namespace L2
open PySem PySem.Spec PyProof.Rows
def partZ (n : Nat) (g : Addr → Option Obj) : PySem.W.Frag := He.frG g (He.asD g n ++ [cStatics])
def obsZ (n : Nat) (fa : List He.Fa) (fn : List He.DefD) (ex : PySem.W.Frag → Bool) (g : Addr → Option Obj) : He.AlD × Bool := (He.obsD fa fn (partZ n g), ex (partZ n g))
def hookZ (n : Nat) (fa : List He.Fa) (fn : List He.DefD) (ex : PySem.W.Frag → Bool) : PySem.W.Hook where
  α := He.AlD × Bool
  obs := fun s => obsZ n fa fn ex s.heap.get?
  val := fun _ => (He.valD fn, true)
  says := fun _ h => ∃ K : PySem.W.Frag, K.In h ∧ He.SaysD fa fn K ∧ ex K = true
  of := fun _ _ e => ⟨_, He.frG_in, congrArg Prod.fst e, congrArg Prod.snd e⟩
  keeps := fun _ _ _ ⟨K, hK, c⟩ k => ⟨K, PySem.W.Frag.In.keeps hK k, c⟩
theorem obsZ_eq {n : Nat} {fa : List He.Fa} {fn : List He.DefD} {ex : PySem.W.Frag → Bool} {g : Addr → Option Obj} {s : Shared} (h : ∀ a, g a = s.heap.get? a) : obsZ n fa fn ex g = (hookZ n fa fn ex).obs s := by
  have e : g = s.heap.get? := funext h
  rw [e]
  rfl
end L2

local macro_rules | `(tactic| walk_at "hp") => `(tactic| first
  | assumption
  | (apply L2.Same.at; assumption; walk_at "hp")
  | (apply L2.But.at; assumption; (walk_at "ne"); walk_at "hp")
  | (apply L2.But.kind; assumption; (walk_at "hp"); (walk_at "hp"); (intro z; cases z))
  | (apply L2.But2.at; assumption; (walk_at "ne"); (walk_at "ne"); walk_at "hp"))
local macro_rules | `(tactic| walk_at "ne") => `(tactic| first
  | assumption
  | exact Ne.symm (by assumption)
  | exact L2.neF (by assumption) (by walk_at "hp")
  | exact L2.neF2 (by assumption) (by walk_at "hp"))
local macro_rules | `(tactic| walk_at "sm") => `(tactic| first
  | exact L2.Same.refl _
  | assumption
  | (refine L2.Same.trans ?_ (by assumption); walk_at "sm")
  | (refine L2.Same.but ?_ (by assumption) (by walk_at "fr"); walk_at "sm"))
local macro_rules | `(tactic| walk_at "fr") => `(tactic| first
  | assumption
  | exact L2.Fr.back (by assumption) (by walk_at "sm"))
local macro_rules | `(tactic| walk_at "bt") => `(tactic| first
  | assumption
  | (refine L2.But.same ?_ (by assumption); walk_at "bt")
  | exact L2.But.before (by assumption) (by walk_at "sm")
  | (refine L2.But.trans ?_ (by assumption); walk_at "bt"))
local macro_rules | `(tactic| walk_at "b2") => `(tactic| first
  | assumption
  | exact L2.But2.refl
  | (refine L2.But2.trans ?_ (L2.Same.two (by assumption)); walk_at "b2")
  | (refine L2.But2.trans ?_ (L2.But.two (by assumption)); walk_at "b2")
  | (refine L2.But2.trans ?_ (L2.But.two' (by assumption)); walk_at "b2")
  | (refine L2.But2.trans ?_ (by assumption); walk_at "b2"))
local macro_rules | `(tactic| walk_at "sz") => `(tactic| first
  | exact Nat.le_of_ble_eq_true rfl
  | ((try simp only [List.length_append, List.length_map, List.length_cons, List.length_nil, List.length_take, List.length_drop, List.length_dropLast, List.length_reverse]); omega))
local macro_rules | `(tactic| walk_at "at") => `(tactic| first
  | rfl
  | assumption
  | exact L2.atI_nat (by first | rfl | assumption))
/-! ### the words of a reading: sd a side condition, rd one step, rds as many as go by themselves, ri a test -/
local macro_rules | `(tactic| walk_at "sd") => `(tactic| first
  | omega
  | (show (0 : Int) < _; omega)
  | (show (0 : Int) ≤ _; omega)
  | exact .inl ⟨by omega, by omega⟩
  | exact .inr ⟨by omega, by omega⟩
  | exact ⟨by decide, by decide⟩
  | exact ⟨by omega, by omega⟩
  | exact L2.small_size (Nat.le_of_ble_eq_true rfl)
  | exact L2.wide_div (b := 64) (by omega) (by omega) (by decide) (by decide)
  | assumption
  | exact ⟨_, by assumption⟩
  | exact .of (by walk_at "hp")
  | exact .inl (.of (by walk_at "hp"))
  | exact .inr (.of (by walk_at "hp"))
  | walk_at "hp"
  | exact L2.szlt (by walk_at "sz"))
local macro_rules | `(tactic| walk_at "rd") => `(tactic| first
  | refine ⟨_, rfl, ?_⟩
  | refine ⟨_, _, rfl, rfl, ?_⟩
  | refine ⟨_, _, rfl, ?_⟩
  | refine ⟨_, _, _, rfl, ?_⟩
  | refine ⟨_, _, _, _, rfl, ?_⟩
  | refine ⟨_, _, _, _, _, rfl, ?_⟩
  | refine ⟨_, _, _, _, _, _, rfl, ?_⟩
  | refine ⟨rfl, ?_⟩
  | refine L2.iteF ?_
  | refine L2.iteT ?_
  | refine And.intro (by walk_at "sd") ?_
  | refine ⟨_, _, _, _, true, rfl, .ty _, .base (.int _), L2.kit_ty (by decide +kernel), ?_⟩
  | refine ⟨_, _, _, _, false, rfl, .ty _, .base (.int _), L2.kit_ty (by decide +kernel), ?_⟩
  | refine ⟨_, _, _, _, true, rfl, .ty _, .base (.bl _), L2.kit_ty (by decide +kernel), ?_⟩
  | refine ⟨_, _, _, _, false, rfl, .ty _, .base (.bl _), L2.kit_ty (by decide +kernel), ?_⟩
  | refine ⟨_, _, _, _, true, rfl, .ty _, .base (.str _), L2.kit_ty (by decide +kernel), ?_⟩
  | refine ⟨_, _, _, _, false, rfl, .ty _, .base (.str _), L2.kit_ty (by decide +kernel), ?_⟩
  | refine ⟨_, _, _, _, true, rfl, .ty _, .base .non, L2.kit_ty (by decide +kernel), ?_⟩
  | refine ⟨_, _, _, _, false, rfl, .ty _, .base .non, L2.kit_ty (by decide +kernel), ?_⟩)
local macro_rules | `(tactic| walk_at "rds") => `(tactic| repeat walk_at "rd")
local macro_rules | `(tactic| walk_at "rz") => `(tactic| repeat first
  | walk_at "rd"
  | refine fun (_ : Int) => ?_
  | refine fun (_ : (_ : Int) ≤ _) => ?_
  | refine fun (_ : (_ : Int) < _) => ?_)
local macro_rules | `(tactic| walk_at "ri") => `(tactic| first
  | refine L2.iteV ?_ ?_
  | refine L2.iteNV ?_ ?_
  | refine L2.iteD ?_ ?_
  | refine L2.iteND ?_ ?_
  | refine L2.iteB ?_ ?_)
local macro_rules | `(tactic| walk_at "nf") => `(tactic| try dsimp only [L2.start, List.set_cons_zero, List.set_cons_succ])
local macro_rules | `(tactic| walk_at "g94len") => `(tactic| (intro vs H Q E h; first
  | exact False.elim h
  | (obtain ⟨e, _⟩ := h; exact congrArg List.length e)
  | (obtain ⟨_, e, _⟩ := h; exact congrArg List.length e)
  | (obtain ⟨_, _, e, _⟩ := h; exact congrArg List.length e)
  | (obtain ⟨_, _, _, e, _⟩ := h; exact congrArg List.length e)
  | (obtain ⟨_, _, _, _, e, _⟩ := h; exact congrArg List.length e)
  | (obtain ⟨_, _, _, _, _, e, _⟩ := h; exact congrArg List.length e)
  | (obtain ⟨_, _, _, _, _, _, e, _⟩ := h; exact congrArg List.length e)
  | (obtain ⟨_, _, _, _, _, _, _, e, _⟩ := h; exact congrArg List.length e)
  | (obtain ⟨_, _, _, _, _, _, _, _, e, _⟩ := h; exact congrArg List.length e)
  | (obtain ⟨_, _, _, _, _, _, _, _, _, e, _⟩ := h; exact congrArg List.length e)
  | (obtain ⟨_, _, _, _, _, _, _, _, _, _, e, _⟩ := h; exact congrArg List.length e)
  | (obtain ⟨_, _, _, _, _, _, _, _, _, _, _, e, _⟩ := h; exact congrArg List.length e)
  | (obtain ⟨_, _, _, _, _, _, _, _, _, _, _, _, e, _⟩ := h; exact congrArg List.length e)
  | (obtain ⟨_, _, _, _, _, _, _, _, _, _, _, _, _, e, _⟩ := h; exact congrArg List.length e)
  | (obtain ⟨_, _, _, _, _, _, _, _, _, _, _, _, _, _, e, _⟩ := h; exact congrArg List.length e)))
local macro_rules | `(tactic| walk_at "g94tr") => `(tactic| (set_option pp.deepTerms false in set_option pp.deepTerms.threshold 8 in trace_state))
local macro_rules | `(tactic| walk_at "wk") => `(tactic| first
  | walk_at "rd"
  | refine ⟨_, _, _, _, rfl, rfl, .of (by walk_at "hp"), (by walk_at "at"), ?_⟩
  | refine ⟨_, _, _, _, _, rfl, (by walk_at "hp"), (by assumption), (by assumption), (by walk_at "lk"), ?_⟩
  | refine ⟨_, _, _, rfl, rfl, (by walk_at "hp"), L2.szlt (by walk_at "sz"), ?_⟩
  | refine ⟨_, _, _, rfl, (by walk_at "hp"), (by walk_at "lk"), ?_⟩
  | refine ⟨_, _, _, _, rfl, (by walk_at "hp"), (by assumption), (by assumption), Nat.le_of_ble_eq_true rfl, _, (by walk_at "pf"), ?_⟩
  | refine ⟨_, _, _, _, true, rfl, .ty _, .base (.lst (by walk_at "hp")), L2.kit_ty (by decide +kernel), ?_⟩
  | refine ⟨_, _, _, _, true, rfl, .ty _, .base (.tup (by walk_at "hp")), L2.kit_ty (by decide +kernel), ?_⟩
  | refine ⟨_, _, _, _, true, rfl, .ty _, .base (.dK (by walk_at "hp")), L2.kit_ty (by decide +kernel), ?_⟩
  | refine ⟨_, _, _, rfl, (by walk_at "hp"), ?_⟩
  | refine ⟨_, _, rfl, (by walk_at "hp"), ?_⟩
  | refine ⟨.inl ⟨rfl, _, .of (by walk_at "hp")⟩, ?_⟩
  | refine ⟨_, _, rfl, .inl (.of (by walk_at "hp")), ?_⟩
  | refine ⟨_, _, rfl, .of (by walk_at "hp"), ?_⟩
  | refine ⟨_, _, _, _, rfl, rfl, (by walk_at "hp"), (by walk_at "hp"), L2.small_size (by walk_at "sz"), ?_⟩
  | refine ⟨_, _, _, rfl, rfl, (by walk_at "hp"), ⟨by decide, by decide, L2.small_size (by walk_at "sz")⟩, ?_⟩
  | refine fun p H' (f : L2.Fr _ _) (s : L2.Same _ _) (h : _ = some _) => ?_
  | refine fun H' (m : L2.But _ _ _) (h : _ = some _) => ?_)
local macro_rules | `(tactic| walk_at "wks") => `(tactic| repeat walk_at "wk")
local macro_rules | `(tactic| walk_at "lk") => `(tactic| first
  | exact L2.lkE (by decide +kernel)
  | exact L2.lkN (by decide +kernel) (by walk_at "lk")
  | rfl
  | assumption)
local macro_rules | `(tactic| walk_at "pf") => `(tactic| first
  | exact L2.pfNil
  | exact L2.pfE (by decide +kernel)
  | exact L2.pfN (by decide +kernel) (by walk_at "pf"))
namespace G94
open PySem PySem.Spec PyProof.Rows L2
def top (i : Nat) : Stmt := PySem.Challenge.pw_lampcues_k02_times_read.main.body.getD i (.Pass ⟨0, 0, 0, 0⟩)
abbrev s_NoText_init : Stmt := inClass (top 2) 0
theorem sc_NoText_init : FnScope ["self", "words", "row"] ["self", "words", "row"] (defScope s_NoText_init) := ⟨rfl, rfl, rfl, by decide +kernel, rfl, by decide +kernel, by decide +kernel⟩
abbrev s_is_time : Stmt := top 10
theorem sc_is_time : FnScope ["thing"] ["thing"] (defScope s_is_time) := ⟨rfl, rfl, rfl, by decide +kernel, rfl, by decide +kernel, by decide +kernel⟩
abbrev s_time_text : Stmt := top 11
theorem sc_time_text : FnScope ["ticks", "seconds", "rest"] ["ticks"] (defScope s_time_text) := ⟨rfl, rfl, rfl, by decide +kernel, rfl, by decide +kernel, by decide +kernel⟩
abbrev s_are_figures : Stmt := top 12
theorem sc_are_figures : FnScope ["text", "most", "sign"] ["text", "most"] (defScope s_are_figures) := ⟨rfl, rfl, rfl, by decide +kernel, rfl, by decide +kernel, by decide +kernel⟩
abbrev s_time_of : Stmt := top 13
theorem sc_time_of : FnScope ["text", "seconds", "point", "rest", "ticks"] ["text"] (defScope s_time_of) := ⟨rfl, rfl, rfl, by decide +kernel, rfl, by decide +kernel, by decide +kernel⟩
abbrev s_l_cell_at : Stmt := top 15
theorem sc_l_cell_at : FnScope ["_law_script", "_law_k"] ["_law_script", "_law_k"] (defScope s_l_cell_at) := ⟨rfl, rfl, rfl, by decide +kernel, rfl, by decide +kernel, by decide +kernel⟩
abbrev s_l_whole : Stmt := top 16
theorem sc_l_whole : FnScope ["_law_found"] ["_law_found"] (defScope s_l_whole) := ⟨rfl, rfl, rfl, by decide +kernel, rfl, by decide +kernel, by decide +kernel⟩
abbrev s_l_sign_by : Stmt := top 17
theorem sc_l_sign_by : FnScope ["_law_cell", "_law_some"] ["_law_cell"] (defScope s_l_sign_by) := ⟨rfl, rfl, rfl, by decide +kernel, rfl, by decide +kernel, by decide +kernel⟩
abbrev s_l_text : Stmt := top 18
theorem sc_l_text : FnScope ["_law_ticks_here", "_law_found"] ["_law_ticks_here"] (defScope s_l_text) := ⟨rfl, rfl, rfl, by decide +kernel, rfl, by decide +kernel, by decide +kernel⟩
abbrev s_l_line : Stmt := top 19
theorem sc_l_line : FnScope ["_law_cell", "_law_number_here", "_law_ticks_here", "_law_line_here", "_law_at", "_law_sign"] ["_law_cell"] (defScope s_l_line) := ⟨rfl, rfl, rfl, by decide +kernel, rfl, by decide +kernel, by decide +kernel⟩
abbrev s_l_odd : Stmt := top 20
theorem sc_l_odd : FnScope ["_law_cell", "_law_some"] ["_law_cell"] (defScope s_l_odd) := ⟨rfl, rfl, rfl, by decide +kernel, rfl, by decide +kernel, by decide +kernel⟩
abbrev s_l_number : Stmt := top 21
theorem sc_l_number : FnScope ["_law_figures", "_law_found", "_law_sign", "_law_at"] ["_law_figures"] (defScope s_l_number) := ⟨rfl, rfl, rfl, by decide +kernel, rfl, by decide +kernel, by decide +kernel⟩
abbrev s_l_ticks : Stmt := top 22
theorem sc_l_ticks : FnScope ["_law_text_here", "_law_seconds", "_law_point", "_law_rest", "_law_ticks_here"] ["_law_text_here"] (defScope s_l_ticks) := ⟨rfl, rfl, rfl, by decide +kernel, rfl, by decide +kernel, by decide +kernel⟩
abbrev s_l_refused : Stmt := top 23
theorem sc_l_refused : FnScope ["_law_thing", "_law_truths", "e"] ["_law_thing"] (defScope s_l_refused) := ⟨rfl, rfl, rfl, by decide +kernel, rfl, by decide +kernel, by decide +kernel⟩
abbrev s_l_read : Stmt := top 24
theorem sc_l_read : FnScope ["_law_line_here", "_law_due", "_law_found"] ["_law_line_here"] (defScope s_l_read) := ⟨rfl, rfl, rfl, by decide +kernel, rfl, by decide +kernel, by decide +kernel⟩
abbrev s_law : Stmt := top 25
theorem sc_law : FnScope ["_law_script", "_law_cell", "_law_odd_here"] ["_law_script"] (defScope s_law) := ⟨rfl, rfl, rfl, by decide +kernel, rfl, by decide +kernel, by decide +kernel⟩
def d_NoText_init : He.DefD := ⟨("NoText", some "__init__"), "__init__", "NoText.__init__", defArgs s_NoText_init, defBody s_NoText_init, defScope s_NoText_init, [.int 0], []⟩
def d_is_time : He.DefD := ⟨("is_time", none), "is_time", "is_time", defArgs s_is_time, defBody s_is_time, defScope s_is_time, [], []⟩
def d_time_text : He.DefD := ⟨("time_text", none), "time_text", "time_text", defArgs s_time_text, defBody s_time_text, defScope s_time_text, [], []⟩
def d_are_figures : He.DefD := ⟨("are_figures", none), "are_figures", "are_figures", defArgs s_are_figures, defBody s_are_figures, defScope s_are_figures, [], []⟩
def d_time_of : He.DefD := ⟨("time_of", none), "time_of", "time_of", defArgs s_time_of, defBody s_time_of, defScope s_time_of, [], []⟩
def d_l_cell_at : He.DefD := ⟨("_law_cell_at", none), "_law_cell_at", "_law_cell_at", defArgs s_l_cell_at, defBody s_l_cell_at, defScope s_l_cell_at, [], []⟩
def d_l_whole : He.DefD := ⟨("_law_whole", none), "_law_whole", "_law_whole", defArgs s_l_whole, defBody s_l_whole, defScope s_l_whole, [], []⟩
def d_l_sign_by : He.DefD := ⟨("_law_sign_by", none), "_law_sign_by", "_law_sign_by", defArgs s_l_sign_by, defBody s_l_sign_by, defScope s_l_sign_by, [], []⟩
def d_l_text : He.DefD := ⟨("_law_text", none), "_law_text", "_law_text", defArgs s_l_text, defBody s_l_text, defScope s_l_text, [], []⟩
def d_l_line : He.DefD := ⟨("_law_line", none), "_law_line", "_law_line", defArgs s_l_line, defBody s_l_line, defScope s_l_line, [], []⟩
def d_l_odd : He.DefD := ⟨("_law_odd", none), "_law_odd", "_law_odd", defArgs s_l_odd, defBody s_l_odd, defScope s_l_odd, [], []⟩
def d_l_number : He.DefD := ⟨("_law_number", none), "_law_number", "_law_number", defArgs s_l_number, defBody s_l_number, defScope s_l_number, [], []⟩
def d_l_ticks : He.DefD := ⟨("_law_ticks", none), "_law_ticks", "_law_ticks", defArgs s_l_ticks, defBody s_l_ticks, defScope s_l_ticks, [], []⟩
def d_l_refused : He.DefD := ⟨("_law_refused", none), "_law_refused", "_law_refused", defArgs s_l_refused, defBody s_l_refused, defScope s_l_refused, [], []⟩
def d_l_read : He.DefD := ⟨("_law_read", none), "_law_read", "_law_read", defArgs s_l_read, defBody s_l_read, defScope s_l_read, [], []⟩
def d_law : He.DefD := ⟨("law", none), "law", "law", defArgs s_law, defBody s_law, defScope s_law, [], []⟩
def fn : List He.DefD := [d_NoText_init, d_is_time, d_time_text, d_are_figures, d_time_of, d_l_cell_at, d_l_whole, d_l_sign_by, d_l_text, d_l_line, d_l_odd, d_l_number, d_l_ticks, d_l_refused, d_l_read, d_law]
def fa : List He.Fa := [.glo "is_time", .glo "time_text", .glo "are_figures", .glo "time_of", .glo "_law_cell_at", .glo "_law_whole", .glo "_law_sign_by", .glo "_law_text", .glo "_law_line", .glo "_law_odd", .glo "_law_number", .glo "_law_ticks", .glo "_law_refused", .glo "_law_read", .glo "law", .glo "NoText", .glo "LampError", .glo "NoTime", .glo "NoWorth", .glo "NoCue", .glo "NoSlot", .free "len", .free "isinstance", .free "int", .free "bool", .free "str", .free "divmod", .free "ValueError", .int "MOST" 1000000000, .str "FIGURES" "0123456789", .exm "NoText" "LampError" true]
def exL (K : PySem.W.Frag) : List Bool := [L2.oexB K "NoText",
  decide (PySem.W.findIn K (.ref (He.ga K "NoText")) "__init__" = some (some (.ref (He.fAd K ("NoText", some "__init__"))))),
  decide (PySem.W.typeIn K (.ref (He.fAd K ("NoText", some "__init__"))) = some (.type "function")),
  L2.xfB K (He.ga K "NoText"),
  decide (PySem.W.findIn K (.ref (He.ga K "NoText")) "row" = some none),
  L2.ownIB K "LampError",
  L2.excB K "NoText",
  decide (PySem.W.kitOne K (.ref (He.ga K "NoText")) (.type "ValueError") = some true),
  decide (PySem.W.kitOne K (.ref (He.ga K "NoText")) (.ref (He.ga K "NoText")) = some true),
  decide (PySem.W.kitOne K (.ref (He.ga K "NoText")) (.ref (He.ga K "NoTime")) = some false),
  decide (PySem.W.kitOne K (.ref (He.ga K "NoText")) (.ref (He.ga K "NoWorth")) = some false),
  decide (PySem.W.kitOne K (.ref (He.ga K "NoText")) (.ref (He.ga K "NoCue")) = some false),
  decide (PySem.W.kitOne K (.ref (He.ga K "NoText")) (.ref (He.ga K "NoSlot")) = some false)]
def exB (K : PySem.W.Frag) : Bool := (exL K).all id
/-- what the top leaves -/
structure Txt (K : PySem.W.Frag) (mg : Str → Option Value) : Prop where
  c : He.SaysD fa fn K
  hp : ∃ h : Heap, K.In h ∧ h.Ns mainGlobals mg
  x : exB K = true
section
variable {K : PySem.W.Frag} {mg : Str → Option Value}
theorem oex_NoText (T : Txt K mg) : L2.OexC K (He.ga K "NoText") := L2.oexB_ok (List.all_eq_true.mp T.x _ (List.mem_of_getElem? (i := 0) rfl))
theorem ini_NoText (T : Txt K mg) : PySem.W.findIn K (.ref (He.ga K "NoText")) "__init__" = some (some (.ref (He.fAd K ("NoText", some "__init__")))) := of_decide_eq_true (List.all_eq_true.mp T.x _ (List.mem_of_getElem? (i := 1) rfl))
theorem inf_NoText (T : Txt K mg) : PySem.W.typeIn K (.ref (He.fAd K ("NoText", some "__init__"))) = some (.type "function") := of_decide_eq_true (List.all_eq_true.mp T.x _ (List.mem_of_getElem? (i := 2) rfl))
theorem xf_NoText (T : Txt K mg) : L2.XfC K (He.ga K "NoText") := L2.xfB_ok (List.all_eq_true.mp T.x _ (List.mem_of_getElem? (i := 3) rfl))
theorem xn_NoText_row (T : Txt K mg) : PySem.W.findIn K (.ref (He.ga K "NoText")) "row" = some none := of_decide_eq_true (List.all_eq_true.mp T.x _ (List.mem_of_getElem? (i := 4) rfl))
theorem own_LampError (T : Txt K mg) : L2.OwnI K (He.ga K "LampError") := L2.ownIB_ok (List.all_eq_true.mp T.x _ (List.mem_of_getElem? (i := 5) rfl))
theorem excC_NoText (T : Txt K mg) : L2.ExcC K (He.ga K "NoText") := L2.excB_ok (List.all_eq_true.mp T.x _ (List.mem_of_getElem? (i := 6) rfl))
theorem is_NoText_ValueError (T : Txt K mg) : PySem.W.kitOne K (.ref (He.ga K "NoText")) (.type "ValueError") = some true := of_decide_eq_true (List.all_eq_true.mp T.x _ (List.mem_of_getElem? (i := 7) rfl))
theorem is_NoText_NoText (T : Txt K mg) : PySem.W.kitOne K (.ref (He.ga K "NoText")) (.ref (He.ga K "NoText")) = some true := of_decide_eq_true (List.all_eq_true.mp T.x _ (List.mem_of_getElem? (i := 8) rfl))
theorem is_NoText_NoTime (T : Txt K mg) : PySem.W.kitOne K (.ref (He.ga K "NoText")) (.ref (He.ga K "NoTime")) = some false := of_decide_eq_true (List.all_eq_true.mp T.x _ (List.mem_of_getElem? (i := 9) rfl))
theorem is_NoText_NoWorth (T : Txt K mg) : PySem.W.kitOne K (.ref (He.ga K "NoText")) (.ref (He.ga K "NoWorth")) = some false := of_decide_eq_true (List.all_eq_true.mp T.x _ (List.mem_of_getElem? (i := 10) rfl))
theorem is_NoText_NoCue (T : Txt K mg) : PySem.W.kitOne K (.ref (He.ga K "NoText")) (.ref (He.ga K "NoCue")) = some false := of_decide_eq_true (List.all_eq_true.mp T.x _ (List.mem_of_getElem? (i := 11) rfl))
theorem is_NoText_NoSlot (T : Txt K mg) : PySem.W.kitOne K (.ref (He.ga K "NoText")) (.ref (He.ga K "NoSlot")) = some false := of_decide_eq_true (List.all_eq_true.mp T.x _ (List.mem_of_getElem? (i := 12) rfl))
theorem glo_is_time (T : Txt K mg) : mg "is_time" = some (.ref (He.ga K "is_time")) := by
  obtain ⟨h, X, G⟩ := T.hp
  exact He.glo_ok X G (T.c.fact 0 rfl)
theorem glo_time_text (T : Txt K mg) : mg "time_text" = some (.ref (He.ga K "time_text")) := by
  obtain ⟨h, X, G⟩ := T.hp
  exact He.glo_ok X G (T.c.fact 1 rfl)
theorem glo_are_figures (T : Txt K mg) : mg "are_figures" = some (.ref (He.ga K "are_figures")) := by
  obtain ⟨h, X, G⟩ := T.hp
  exact He.glo_ok X G (T.c.fact 2 rfl)
theorem glo_time_of (T : Txt K mg) : mg "time_of" = some (.ref (He.ga K "time_of")) := by
  obtain ⟨h, X, G⟩ := T.hp
  exact He.glo_ok X G (T.c.fact 3 rfl)
theorem glo__law_cell_at (T : Txt K mg) : mg "_law_cell_at" = some (.ref (He.ga K "_law_cell_at")) := by
  obtain ⟨h, X, G⟩ := T.hp
  exact He.glo_ok X G (T.c.fact 4 rfl)
theorem glo__law_whole (T : Txt K mg) : mg "_law_whole" = some (.ref (He.ga K "_law_whole")) := by
  obtain ⟨h, X, G⟩ := T.hp
  exact He.glo_ok X G (T.c.fact 5 rfl)
theorem glo__law_sign_by (T : Txt K mg) : mg "_law_sign_by" = some (.ref (He.ga K "_law_sign_by")) := by
  obtain ⟨h, X, G⟩ := T.hp
  exact He.glo_ok X G (T.c.fact 6 rfl)
theorem glo__law_text (T : Txt K mg) : mg "_law_text" = some (.ref (He.ga K "_law_text")) := by
  obtain ⟨h, X, G⟩ := T.hp
  exact He.glo_ok X G (T.c.fact 7 rfl)
theorem glo__law_line (T : Txt K mg) : mg "_law_line" = some (.ref (He.ga K "_law_line")) := by
  obtain ⟨h, X, G⟩ := T.hp
  exact He.glo_ok X G (T.c.fact 8 rfl)
theorem glo__law_odd (T : Txt K mg) : mg "_law_odd" = some (.ref (He.ga K "_law_odd")) := by
  obtain ⟨h, X, G⟩ := T.hp
  exact He.glo_ok X G (T.c.fact 9 rfl)
theorem glo__law_number (T : Txt K mg) : mg "_law_number" = some (.ref (He.ga K "_law_number")) := by
  obtain ⟨h, X, G⟩ := T.hp
  exact He.glo_ok X G (T.c.fact 10 rfl)
theorem glo__law_ticks (T : Txt K mg) : mg "_law_ticks" = some (.ref (He.ga K "_law_ticks")) := by
  obtain ⟨h, X, G⟩ := T.hp
  exact He.glo_ok X G (T.c.fact 11 rfl)
theorem glo__law_refused (T : Txt K mg) : mg "_law_refused" = some (.ref (He.ga K "_law_refused")) := by
  obtain ⟨h, X, G⟩ := T.hp
  exact He.glo_ok X G (T.c.fact 12 rfl)
theorem glo__law_read (T : Txt K mg) : mg "_law_read" = some (.ref (He.ga K "_law_read")) := by
  obtain ⟨h, X, G⟩ := T.hp
  exact He.glo_ok X G (T.c.fact 13 rfl)
theorem glo_law (T : Txt K mg) : mg "law" = some (.ref (He.ga K "law")) := by
  obtain ⟨h, X, G⟩ := T.hp
  exact He.glo_ok X G (T.c.fact 14 rfl)
theorem glo_NoText (T : Txt K mg) : mg "NoText" = some (.ref (He.ga K "NoText")) := by
  obtain ⟨h, X, G⟩ := T.hp
  exact He.glo_ok X G (T.c.fact 15 rfl)
theorem glo_LampError (T : Txt K mg) : mg "LampError" = some (.ref (He.ga K "LampError")) := by
  obtain ⟨h, X, G⟩ := T.hp
  exact He.glo_ok X G (T.c.fact 16 rfl)
theorem glo_NoTime (T : Txt K mg) : mg "NoTime" = some (.ref (He.ga K "NoTime")) := by
  obtain ⟨h, X, G⟩ := T.hp
  exact He.glo_ok X G (T.c.fact 17 rfl)
theorem glo_NoWorth (T : Txt K mg) : mg "NoWorth" = some (.ref (He.ga K "NoWorth")) := by
  obtain ⟨h, X, G⟩ := T.hp
  exact He.glo_ok X G (T.c.fact 18 rfl)
theorem glo_NoCue (T : Txt K mg) : mg "NoCue" = some (.ref (He.ga K "NoCue")) := by
  obtain ⟨h, X, G⟩ := T.hp
  exact He.glo_ok X G (T.c.fact 19 rfl)
theorem glo_NoSlot (T : Txt K mg) : mg "NoSlot" = some (.ref (He.ga K "NoSlot")) := by
  obtain ⟨h, X, G⟩ := T.hp
  exact He.glo_ok X G (T.c.fact 20 rfl)
theorem free_len (T : Txt K mg) : mg "len" = none := by
  obtain ⟨h, X, G⟩ := T.hp
  exact He.free_ok X G (T.c.fact 21 rfl)
theorem free_isinstance (T : Txt K mg) : mg "isinstance" = none := by
  obtain ⟨h, X, G⟩ := T.hp
  exact He.free_ok X G (T.c.fact 22 rfl)
theorem free_int (T : Txt K mg) : mg "int" = none := by
  obtain ⟨h, X, G⟩ := T.hp
  exact He.free_ok X G (T.c.fact 23 rfl)
theorem free_bool (T : Txt K mg) : mg "bool" = none := by
  obtain ⟨h, X, G⟩ := T.hp
  exact He.free_ok X G (T.c.fact 24 rfl)
theorem free_str (T : Txt K mg) : mg "str" = none := by
  obtain ⟨h, X, G⟩ := T.hp
  exact He.free_ok X G (T.c.fact 25 rfl)
theorem free_divmod (T : Txt K mg) : mg "divmod" = none := by
  obtain ⟨h, X, G⟩ := T.hp
  exact He.free_ok X G (T.c.fact 26 rfl)
theorem free_ValueError (T : Txt K mg) : mg "ValueError" = none := by
  obtain ⟨h, X, G⟩ := T.hp
  exact He.free_ok X G (T.c.fact 27 rfl)
theorem int_MOST (T : Txt K mg) : ∃ t, mg "MOST" = some (.int 1000000000 t) := by
  obtain ⟨h, X, G⟩ := T.hp
  exact He.int_ok X G (T.c.fact 28 rfl)
theorem str_FIGURES (T : Txt K mg) : ∃ t, mg "FIGURES" = some (.str "0123456789" t) := by
  obtain ⟨h, X, G⟩ := T.hp
  exact He.str_ok X G (T.c.fact 29 rfl)
theorem fact_exm_NoText_LampError (T : Txt K mg) : (He.Fa.ok K (.exm "NoText" "LampError" true)) = true := T.c.fact 30 rfl
end
section
variable {K : PySem.W.Frag} {mg : Str → Option Value}
theorem exm_NoText_LampError (T : Txt K mg) : PySem.W.exmOne K (.ref (He.ga K "NoText")) (.ref (He.ga K "LampError")) = some true := He.exm_ok (fact_exm_NoText_LampError T)

end
section
variable {P : Program} {w : World} {K : PySem.W.Frag} {mg : Str → Option Value} {base : Heap}
/-! ### the law's small helpers -/
def spCell (K : PySem.W.Frag) : Sp := fun vs H Q _ => ∃ (a : Addr) (k : Int), vs = [.ref a, .int k] ∧ (∃ ns : List Int, SqL K H a (ns.map V.int)) ∧ 0 ≤ k ∧ ∀ r : Int, Q (.int r) H
theorem ok_l_cell_at (T : Txt K mg) : ∃ fd, FnOk P w K mg base CX0 1 (He.fAd K ("_law_cell_at", none)) fd ["_law_script", "_law_k"] (spCell K) ∧ FunD K "_law_cell_at" "_law_cell_at" (defArgs s_l_cell_at) (defBody s_l_cell_at) (defScope s_l_cell_at) [] [] (He.fAd K ("_law_cell_at", none)) fd := by
  obtain ⟨fd, F⟩ := T.c.def_ 5 (d := d_l_cell_at) rfl
  refine ⟨fd, F.ok sc_l_cell_at (by walk_at "g94len") (fun cdv A outer st H vs Q E hr h => ?_), F⟩
  · obtain ⟨a, i, rfl, ⟨ns, hS⟩, i0, k⟩ := h
    refine ⟨_, PSs.nox (pss_cons (ps_if (pt_cmpR op_lt (pv 1) (pe_callB call_len_seq (by rfl) (free_len T) (by decide +kernel) (pa_cons (pv 0) pa_nil)) (nomark _)) (pss_one (ps_ret (pe_ix ix_list (pv 0) (pv 1) (fun _ _ => rfl)))) pss_nil)
        (pss_one (ps_ret pe_int))), ?_⟩
    walk_at "rds"
    refine ⟨_, _, rfl, .inl hS, ?_⟩
    walk_at "rds"
    walk_at "ri" <;> intro c1
    · obtain ⟨v, hv, hv2⟩ := atI_lt i0 c1
      obtain ⟨z, rfl, _, _⟩ := int_at hv2
      walk_at "rds"
      exact ⟨_, _, _, _, rfl, rfl, hS, hv, k _⟩
    · walk_at "rds"
      exact k _

def spWhole : Sp := fun vs H Q _ => ∃ n : Int, vs = [.int n] ∧ Q (.bl true) H
theorem ok_l_whole (T : Txt K mg) : ∃ fd, FnOk P w K mg base CX0 1 (He.fAd K ("_law_whole", none)) fd ["_law_found"] spWhole ∧ FunD K "_law_whole" "_law_whole" (defArgs s_l_whole) (defBody s_l_whole) (defScope s_l_whole) [] [] (He.fAd K ("_law_whole", none)) fd := by
  obtain ⟨fd, F⟩ := T.c.def_ 6 (d := d_l_whole) rfl
  refine ⟨fd, F.ok sc_l_whole (by walk_at "g94len") (fun cdv A outer st H vs Q E hr h => ?_), F⟩
  · obtain ⟨n, rfl, k⟩ := h
    refine ⟨_, PSs.nox (pss_one (ps_ret (pe_and (pe_callB call_isi (by rfl) (free_isinstance T) (by decide +kernel) (pa_cons (pv 0) (pa_cons (pe_bltn (v := .ty "int") (by rfl) (free_int T) (by decide +kernel) rfl) pa_nil))) (pe_one (pe_not (pe_callB call_isi (by rfl) (free_isinstance T) (by decide +kernel) (pa_cons (pv 0) (pa_cons (pe_bltn (v := .ty "bool") (by rfl) (free_bool T) (by decide +kernel) rfl) pa_nil)))))))), ?_⟩
    walk_at "rds"
    exact k

def isFig (c : Nat) : Bool := decide (48 ≤ c) && decide (c ≤ 57)
def figs : List Nat := [48, 49, 50, 51, 52, 53, 54, 55, 56, 57]
theorem figs_eq : ("0123456789" : Str) = SX.S figs := by decide +kernel
theorem fig_iff {c : Nat} : c ∈ figs ↔ isFig c = true := by
  simp only [figs, List.mem_cons, List.not_mem_nil, or_false, isFig, Bool.and_eq_true, decide_eq_true_eq]
  omega
/-- the number, sign by sign -/
def dstep (t : Int) (c : Nat) : Int := 10 * t + ((c : Int) - 48)
def val (l : List Nat) : Int := l.foldl dstep 0
theorem val_snoc (l : List Nat) (c : Nat) : val (l ++ [c]) = 10 * val l + ((c : Int) - 48) := by
  unfold val
  rw [List.foldl_append]
  rfl
theorem val_bound : ∀ (n : Nat) (l : List Nat), l.length = n → l.all isFig = true → 0 ≤ val l ∧ val l < 10 ^ n
  | 0, l, h, _ => by
    have e : l = [] := List.length_eq_zero_iff.mp h
    subst e
    exact ⟨Int.le_refl _, by show (0 : Int) < 1; decide⟩
  | n + 1, l, h, ha => by
    rcases List.eq_nil_or_concat l with e | ⟨r, c, e⟩
    · rw [e] at h
      cases h
    · rw [List.concat_eq_append] at e
      subst e
      rw [List.length_append] at h
      rw [List.all_append, Bool.and_eq_true] at ha
      have hr := val_bound n r (by simp only [List.length_cons, List.length_nil] at h; omega) ha.1
      have hc : isFig c = true := by simpa using ha.2
      unfold isFig at hc
      rw [Bool.and_eq_true, decide_eq_true_eq, decide_eq_true_eq] at hc
      rw [val_snoc, Int.pow_succ]
      omega
theorem val_digits {l : List Nat} (h : l.all isFig = true) : val l = ((NumText.digitsVal l : Nat) : Int) := by
  have key : ∀ (l : List Nat) (a : Nat), l.all isFig = true → l.foldl dstep (a : Int) = ((l.foldl (fun acc c => acc * 10 + (c - 48)) a : Nat) : Int) := by
    intro l
    induction l with
    | nil =>
      intro a _
      rfl
    | cons c r ih =>
      intro a h
      rw [List.all_cons, Bool.and_eq_true] at h
      have hc := h.1
      unfold isFig at hc
      rw [Bool.and_eq_true, decide_eq_true_eq, decide_eq_true_eq] at hc
      rw [List.foldl_cons, List.foldl_cons, ← ih _ h.2]
      congr 1
      unfold dstep
      omega
  exact key l 0 h
theorem find_fig {c : Nat} (h : isFig c = true) : Txt.find (SX.S figs) (SX.S [c]) = (c : Int) - 48 := by
  unfold isFig at h
  rw [Bool.and_eq_true, decide_eq_true_eq, decide_eq_true_eq] at h
  rcases (by omega : c = 48 ∨ c = 49 ∨ c = 50 ∨ c = 51 ∨ c = 52 ∨ c = 53 ∨ c = 54 ∨ c = 55 ∨ c = 56 ∨ c = 57) with rfl | rfl | rfl | rfl | rfl | rfl | rfl | rfl | rfl | rfl <;> decide +kernel
theorem len_S (l : List Nat) : (SX.S l).length = l.length := SX.S_len l

/-- a value of another type -/
def IsA (K : PySem.W.Frag) (H : Hp) (v : V) (t : String) (b : Bool) : Prop := ∃ u, TyX K H v u ∧ PySem.W.kitOne K u (.type t) = some b

def TimeSays (K : PySem.W.Frag) (H : Hp) (v : V) (b : Bool) : Prop := (∃ n : Int, v = .int n ∧ b = decide (0 ≤ n ∧ n ≤ 1000000000)) ∨ (∃ t, v = .bl t ∧ b = false) ∨ (IsA K H v "int" false ∧ b = false)
def spTime (K : PySem.W.Frag) : Sp := fun vs H Q _ => ∃ (v : V) (b : Bool), vs = [v] ∧ TimeSays K H v b ∧ Q (.bl b) H
theorem ok_is_time (T : Txt K mg) : ∃ fd, FnOk P w K mg base CX0 1 (He.fAd K ("is_time", none)) fd ["thing"] (spTime K) ∧ FunD K "is_time" "is_time" (defArgs s_is_time) (defBody s_is_time) (defScope s_is_time) [] [] (He.fAd K ("is_time", none)) fd := by
  obtain ⟨fd, F⟩ := T.c.def_ 1 (d := d_is_time) rfl
  obtain ⟨t_MOST, g_MOST⟩ := int_MOST T
  refine ⟨fd, F.ok sc_is_time (by walk_at "g94len") (fun cdv A outer st H vs Q E hr h => ?_), F⟩
  · obtain ⟨v, b, rfl, hs, k⟩ := h
    refine ⟨_, PSs.nox (pss_one (ps_ret (pe_and (pe_callB call_isi (by rfl) (free_isinstance T) (by decide +kernel) (pa_cons (pv 0) (pa_cons (pe_bltn (v := .ty "int") (by rfl) (free_int T) (by decide +kernel) rfl) pa_nil))) (pe_and (pe_not (pe_callB call_isi (by rfl) (free_isinstance T) (by decide +kernel) (pa_cons (pv 0) (pa_cons (pe_bltn (v := .ty "bool") (by rfl) (free_bool T) (by decide +kernel) rfl) pa_nil)))) (pe_one (pe_chain op_le op_le pe_int (pv 0) (pe_glob (v := .int 1000000000) rfl g_MOST ⟨_, rfl⟩))))))), ?_⟩
    rcases hs with ⟨n, rfl, rfl⟩ | ⟨t, rfl, rfl⟩ | ⟨⟨u, h1, h2⟩, rfl⟩
    · walk_at "rds"
      walk_at "ri" <;> intro c1
      · walk_at "rds"
        rw [show decide (0 ≤ n ∧ n ≤ 1000000000) = decide (n ≤ 1000000000) from decide_eq_decide.mpr ⟨fun q => q.2, fun q => ⟨c1, q⟩⟩] at k
        exact k
      · rw [decide_eq_false (fun q : 0 ≤ n ∧ n ≤ 1000000000 => c1 q.1)] at k
        exact k
    · walk_at "rds"
      exact k
    · refine ⟨_, rfl, _, _, _, _, false, rfl, .ty _, h1, h2, ?_⟩
      walk_at "rds"
      exact k

abbrev cNT (K : PySem.W.Frag) : Addr := He.ga K "NoText"
/-- the heap behind NoText(..) -/
theorem raised_same {H : Hp} {a d C : Addr} {fs : List (Str × V)} (ha : H a = none) (hd : H d = none) : Same H (upd (del (upd (upd (upd H a (exo a C none)) d (exd d fs)) a (exo a C (some d))) a) d (.xd fs)) := fun b u e => by
  have n1 : b ≠ a := ne_of_none e ha
  have n2 : b ≠ d := ne_of_none e hd
  rw [upd_ne n2, del_ne n1, upd_ne n1, upd_ne n2, upd_ne n1]
  exact e
def spNoText (K : PySem.W.Frag) : Sp := fun vs H Q _ => ∃ (a : Addr) (w : V) (n : Int), vs = [.ref a, w, .int n] ∧ H a = some (exo a (cNT K) none) ∧ ∀ d : Addr, H d = none → d ≠ a → Q .non (upd (upd H d (exd d [("row", .int n)])) a (exo a (cNT K) (some d)))
theorem ok_NoText_init (T : Txt K mg) : ∃ fd, FnOk P w K mg base CX0 1 (He.fAd K ("NoText", some "__init__")) fd ["self", "words", "row"] (spNoText K) ∧ FunD K "__init__" "NoText.__init__" (defArgs s_NoText_init) (defBody s_NoText_init) (defScope s_NoText_init) [V.int 0] [] (He.fAd K ("NoText", some "__init__")) fd := by
  obtain ⟨fd, F⟩ := T.c.def_ 0 (d := d_NoText_init) rfl
  refine ⟨fd, F.ok sc_NoText_init (by walk_at "g94len") (fun cdv A outer st H vs Q E hr h => ?_), F⟩
  · obtain ⟨a, w, n, rfl, ha, k⟩ := h
    refine ⟨_, PSs.nox (pss_cons (ps_expr (pe_ownInit (own_LampError T) rfl (glo_LampError T) (pa_cons (pv 0) (pa_cons (pv 1) pa_nil))))
        (pss_one (ps_ost (pv 0) (pv 2)))), ?_⟩
    walk_at "wks"
    refine ⟨a, cNT K, [w], rfl, Nat.le_of_ble_eq_true rfl, oex_NoText T, ha, ?_⟩
    exact ⟨_, rfl, _, rfl, a, cNT K, rfl, oex_NoText T, xn_NoText_row T, .inl ⟨ha, fun dx hd ne => k dx hd ne⟩⟩
/-! ### plain -/
def tail3 (r : Nat) : List Nat := if r % 100 = 0 then [48 + r / 100] else if r % 10 = 0 then [48 + r / 100, 48 + r / 10 % 10] else [48 + r / 100, 48 + r / 10 % 10, 48 + r % 10]
def written (n : Nat) : List Nat := if n % 1000 = 0 then TL.numL (n / 1000) else TL.numL (n / 1000) ++ [46] ++ tail3 (n % 1000)
theorem str_num (n : Nat) : Str.ofString (toString ((n : Nat) : Int)) = SX.S (TL.numL n) := (SX.S_tl _).symm.trans (congrArg SX.S (TL.tl_num n))
theorem pad_all : ∀ r : Fin 1000, (decide (r.val = 0) || decide ((Txt.rstripChars (Txt.zfill (SX.S (TL.numL r.val)) 3) (SX.S [48])).cps.toList = tail3 r.val)) = true := by decide +kernel
theorem pad_tail {r : Nat} (h0 : r ≠ 0) (h1 : r < 1000) : Txt.rstripChars (Txt.zfill (SX.S (TL.numL r)) 3) (SX.S [48]) = SX.S (tail3 r) := by
  have h := pad_all ⟨r, h1⟩
  rw [Bool.or_eq_true, decide_eq_true_eq, decide_eq_true_eq] at h
  rcases h with h | h
  · exact absurd h h0
  · exact (SX.S_tl _).symm.trans (congrArg SX.S h)
theorem tail_all : ∀ r : Fin 1000, (decide (r.val = 0) || ((tail3 r.val).all isFig && (decide (1 ≤ (tail3 r.val).length) && (decide ((tail3 r.val).length ≤ 3) && (decide ((tail3 r.val).getLast? ≠ some 48) && decide (val ((tail3 r.val ++ [48, 48]).take 3) = (r.val : Int))))))) = true := by decide +kernel
theorem tail_facts {r : Nat} (h0 : r ≠ 0) (h1 : r < 1000) : (tail3 r).all isFig = true ∧ 1 ≤ (tail3 r).length ∧ (tail3 r).length ≤ 3 ∧ (tail3 r).getLast? ≠ some 48 ∧ val ((tail3 r ++ [48, 48]).take 3) = (r : Int) := by
  have h := tail_all ⟨r, h1⟩
  simp only [Bool.or_eq_true, Bool.and_eq_true, decide_eq_true_eq] at h
  rcases h with h | h
  · exact absurd h h0
  · exact h
theorem zfill_all : ∀ r : Fin 1000, decide ((Txt.zfill (SX.S (TL.numL r.val)) 3).length ≤ 3) = true := by decide +kernel
theorem zfill_len {r : Nat} (h : r < 1000) : (Txt.zfill (SX.S (TL.numL r)) 3).length ≤ 3 := of_decide_eq_true (zfill_all ⟨r, h⟩)
theorem numL_fig (n : Nat) : (TL.numL n).all isFig = true := by
  rw [List.all_eq_true]
  intro c hc
  have h := TL.numL_digits n c hc
  unfold isFig
  rw [Bool.and_eq_true, decide_eq_true_eq, decide_eq_true_eq]
  omega
theorem numL_valI (n : Nat) : val (TL.numL n) = (n : Int) := by
  rw [val_digits (numL_fig n), TL.numL_val]
theorem numL_head : ∀ n : Nat, n ≠ 0 → ∃ c r, TL.numL n = c :: r ∧ c ≠ 48 := by
  intro n
  induction n using Nat.strongRecOn with
  | _ n ih =>
    intro h0
    by_cases h : n < 10
    · exact ⟨48 + n, [], TL.numL_lt h, by omega⟩
    · obtain ⟨c, r, e, hc⟩ := ih (n / 10) (by omega) (by omega)
      exact ⟨c, r ++ [48 + n % 10], by rw [TL.numL_step (by omega), e]; rfl, hc⟩
theorem part_w (n : Nat) : ∃ pt rs : List Nat, Txt.partition (SX.S (written n)) "." = (SX.S (TL.numL (n / 1000)), SX.S pt, SX.S rs) ∧ ((n % 1000 = 0 ∧ pt = [] ∧ rs = []) ∨ (n % 1000 ≠ 0 ∧ pt = [46] ∧ rs = tail3 (n % 1000))) := by
  have hd : (("." : Str)) = SX.S [46] := by decide +kernel
  have hf : 46 ∉ TL.numL (n / 1000) := TL.numL_free (.inl (by decide))
  rw [hd]
  unfold written
  by_cases h : n % 1000 = 0
  · rw [if_pos h]
    exact ⟨[], [], SX.partition_none (by decide) (SX.par_head_none hf), .inl ⟨h, rfl, rfl⟩⟩
  · rw [if_neg h]
    refine ⟨[46], tail3 (n % 1000), SX.partition_some (by decide) ?_, .inr ⟨h, rfl, rfl⟩⟩
    rw [List.append_assoc]
    exact SX.par_head _ hf
theorem written_len {n : Nat} (h : n ≤ 1000000000) : (written n).length ≤ 12 := by
  have h1 := TL.numL_len (n := n / 1000) (k := 8) (by decide) (by show n / 1000 < 100000000; omega)
  have h2 : (tail3 (n % 1000)).length ≤ 3 := by
    unfold tail3
    split
    · exact (by decide : 1 ≤ 3)
    · split
      · exact (by decide : 2 ≤ 3)
      · exact (by decide : 3 ≤ 3)
  unfold written
  split
  · omega
  · rw [List.length_append, List.length_append]
    show (TL.numL (n / 1000)).length + 1 + _ ≤ 12
    omega

/-! ### texts that write a time -/
theorem fig_of {c : Nat} (h : isFig c = true) : 48 ≤ c ∧ c ≤ 57 := by
  unfold isFig at h
  rw [Bool.and_eq_true, decide_eq_true_eq, decide_eq_true_eq] at h
  exact h
theorem canon : ∀ (k : Nat) (l : List Nat), l.length = k → l ≠ [] → l.all isFig = true → (l = [48] ∨ l.head? ≠ some 48) → TL.numL (val l).toNat = l
  | 0, l, h, hn, _, _ => absurd (List.length_eq_zero_iff.mp h) hn
  | k + 1, l, h, hn, ha, hz => by
    rcases List.eq_nil_or_concat l with e | ⟨r, c, e⟩
    · exact absurd e hn
    · rw [List.concat_eq_append] at e
      subst e
      rw [List.length_append] at h
      rw [List.all_append, Bool.and_eq_true] at ha
      have hc := fig_of (c := c) (by simpa using ha.2)
      have hb := val_bound _ r rfl ha.1
      rw [val_snoc]
      by_cases hr : r = []
      · subst hr
        have e0 : val [] = 0 := rfl
        rw [e0, show (10 * 0 + ((c : Int) - 48)).toNat = c - 48 by omega, TL.numL_lt (by omega)]
        show [48 + (c - 48)] = [c]
        rw [show 48 + (c - 48) = c by omega]
      · have hz2 : r.head? ≠ some 48 := by
          rcases hz with hz | hz
          · cases r with
            | nil => exact absurd rfl hr
            | cons x s =>
              have := congrArg List.length hz
              rw [List.length_append] at this
              simp at this
          · cases r with
            | nil => exact absurd rfl hr
            | cons x s => exact hz
        have ih := canon k r (by simpa using h) hr ha.1 (.inr hz2)
        have v1 : 1 ≤ (val r).toNat := by
          rcases Nat.eq_zero_or_pos (val r).toNat with e | e
          · rw [e, TL.numL_lt (by decide)] at ih
            rw [← ih] at hz2
            exact absurd rfl hz2
          · exact e
        rw [TL.numL_step (by omega), show (10 * val r + ((c : Int) - 48)).toNat / 10 = (val r).toNat by omega, ih, show 48 + (10 * val r + ((c : Int) - 48)).toNat % 10 = c by omega]
theorem tail_inv {rs : List Nat} (hn : rs ≠ []) (hl : rs.length ≤ 3) (ha : rs.all isFig = true) (hz : rs.getLast? ≠ some 48) : ∃ r, r ≠ 0 ∧ r < 1000 ∧ rs = tail3 r := by
  match rs, hn, hl, ha, hz with
  | [x], _, _, ha, hz =>
    have hx := fig_of (c := x) (by simpa using ha)
    have nx : x ≠ 48 := fun e => hz (by rw [e]; rfl)
    refine ⟨100 * (x - 48), by omega, by omega, ?_⟩
    unfold tail3
    rw [if_pos (by omega), show 48 + 100 * (x - 48) / 100 = x by omega]
  | [x, y], _, _, ha, hz =>
    rw [List.all_cons, Bool.and_eq_true] at ha
    have hx := fig_of ha.1
    have hy := fig_of (c := y) (by simpa using ha.2)
    have nx : y ≠ 48 := fun e => hz (by rw [e]; rfl)
    refine ⟨100 * (x - 48) + 10 * (y - 48), by omega, by omega, ?_⟩
    unfold tail3
    rw [if_neg (by omega), if_pos (by omega), show 48 + (100 * (x - 48) + 10 * (y - 48)) / 100 = x by omega, show 48 + (100 * (x - 48) + 10 * (y - 48)) / 10 % 10 = y by omega]
  | [x, y, z], _, _, ha, hz =>
    rw [List.all_cons, List.all_cons, Bool.and_eq_true, Bool.and_eq_true] at ha
    have hx := fig_of ha.1
    have hy := fig_of ha.2.1
    have hw := fig_of (c := z) (by simpa using ha.2.2)
    have nx : z ≠ 48 := fun e => hz (by rw [e]; rfl)
    refine ⟨100 * (x - 48) + 10 * (y - 48) + (z - 48), by omega, by omega, ?_⟩
    unfold tail3
    rw [if_neg (by omega), if_neg (by omega), show 48 + (100 * (x - 48) + 10 * (y - 48) + (z - 48)) / 100 = x by omega, show 48 + (100 * (x - 48) + 10 * (y - 48) + (z - 48)) / 10 % 10 = y by omega, show 48 + (100 * (x - 48) + 10 * (y - 48) + (z - 48)) % 10 = z by omega]
  | _ :: _ :: _ :: _ :: _, _, hl, _, _ => simp at hl
def GoodS (a : List Nat) : Prop := a ≠ [] ∧ a.all isFig = true ∧ (a = [48] ∨ a.head? ≠ some 48)
def GoodR (rs : List Nat) : Prop := rs ≠ [] ∧ rs.length ≤ 3 ∧ rs.all isFig = true ∧ rs.getLast? ≠ some 48
structure Parts (l a pt rs : List Nat) : Prop where
  h : (pt = [] ∧ rs = [] ∧ a = l ∧ 46 ∉ l) ∨ (pt = [46] ∧ l = a ++ 46 :: rs ∧ 46 ∉ a)
theorem split_first {c : Nat} : ∀ {l : List Nat}, c ∈ l → ∃ a r, l = a ++ c :: r ∧ c ∉ a
  | x :: l, h => by
    by_cases e : x = c
    · exact ⟨[], l, by rw [e]; rfl, by simp⟩
    · rcases List.mem_cons.mp h with h | h
      · exact absurd h.symm e
      · obtain ⟨a, r, e1, e2⟩ := split_first h
        refine ⟨x :: a, r, by rw [e1]; rfl, fun q => ?_⟩
        rcases List.mem_cons.mp q with q | q
        · exact e q.symm
        · exact e2 q
theorem split_uniq {c : Nat} : ∀ {a b r s : List Nat}, a ++ c :: r = b ++ c :: s → c ∉ a → c ∉ b → a = b ∧ r = s
  | [], [], r, s, e, _, _ => ⟨rfl, (List.cons.inj e).2⟩
  | [], x :: b, r, s, e, _, h => absurd (by rw [(List.cons.inj e).1]; exact List.mem_cons_self) h
  | x :: a, [], r, s, e, h, _ => absurd (by rw [← (List.cons.inj e).1]; exact List.mem_cons_self) h
  | x :: a, y :: b, r, s, e, h1, h2 => by
    obtain ⟨e1, e2⟩ := List.cons.inj e
    obtain ⟨q1, q2⟩ := split_uniq e2 (fun q => h1 (List.mem_cons_of_mem _ q)) fun q => h2 (List.mem_cons_of_mem _ q)
    exact ⟨by rw [e1, q1], q2⟩
theorem parts (l : List Nat) : ∃ a pt rs : List Nat, Txt.partition (SX.S l) "." = (SX.S a, SX.S pt, SX.S rs) ∧ Parts l a pt rs := by
  have hd : (("." : Str)) = SX.S [46] := by decide +kernel
  rw [hd]
  by_cases h : 46 ∈ l
  · obtain ⟨a, r, e, q⟩ := split_first h
    refine ⟨a, [46], r, ?_, ⟨.inr ⟨rfl, e, q⟩⟩⟩
    rw [e]
    exact SX.partition_some (by decide) (SX.par_head r q)
  · exact ⟨l, [], [], SX.partition_none (by decide) (SX.par_head_none h), ⟨.inl ⟨rfl, rfl, rfl, h⟩⟩⟩
theorem free_num (n : Nat) : 46 ∉ TL.numL n := TL.numL_free (.inl (by decide))
theorem numL_good (n : Nat) : GoodS (TL.numL n) := by
  refine ⟨TL.numL_ne n, numL_fig n, ?_⟩
  by_cases h : n = 0
  · exact .inl (by rw [h]; exact TL.numL_lt (by decide))
  · obtain ⟨c, r, e, hc⟩ := numL_head n h
    rw [e]
    exact .inr fun q => hc (Option.some.inj q)
theorem good_written {l a pt rs : List Nat} (p : Parts l a pt rs) {n : Nat} (hn : n ≤ 1000000000) (e : l = written n) :
    GoodS a ∧ a.length ≤ 7 ∧ ((pt = [] ∧ (n : Int) = 1000 * val a) ∨ (pt = [46] ∧ GoodR rs ∧ (n : Int) = 1000 * val a + val ((rs ++ [48, 48]).take 3))) := by
  have hl := TL.numL_len (n := n / 1000) (k := 7) (by decide) (by show n / 1000 < 10000000; omega)
  unfold written at e
  by_cases h0 : n % 1000 = 0
  · rw [if_pos h0] at e
    rcases p.h with ⟨rfl, rfl, rfl, _⟩ | ⟨_, e2, _⟩
    · rw [e]
      refine ⟨numL_good _, hl, .inl ⟨rfl, ?_⟩⟩
      rw [numL_valI]
      omega
    · refine absurd ?_ (free_num (n / 1000))
      rw [← e, e2]
      simp
  · rw [if_neg h0, List.append_assoc] at e
    rcases p.h with ⟨_, _, _, q⟩ | ⟨rfl, e2, q⟩
    · refine absurd ?_ q
      rw [e]
      simp
    · have e : l = TL.numL (n / 1000) ++ 46 :: tail3 (n % 1000) := e
      obtain ⟨rfl, rfl⟩ := split_uniq (e2.symm.trans e) q (free_num _)
      obtain ⟨t1, t2, t3, t4, t5⟩ := tail_facts (r := n % 1000) h0 (by omega)
      refine ⟨numL_good _, hl, .inr ⟨rfl, ⟨(fun z => by rw [z] at t2; cases t2), t3, t1, t4⟩, ?_⟩⟩
      rw [t5, numL_valI]
      omega
theorem written_good {l a pt rs : List Nat} (p : Parts l a pt rs) (ga : GoodS a) : (pt = [] → ∃ n : Nat, (n : Int) = 1000 * val a ∧ l = written n) ∧
    (pt = [46] → GoodR rs → ∃ n : Nat, (n : Int) = 1000 * val a + val ((rs ++ [48, 48]).take 3) ∧ l = written n) := by
  have hc := canon _ a rfl ga.1 ga.2.1 ga.2.2
  have hb := val_bound _ a rfl ga.2.1
  refine ⟨fun e => ?_, fun e gr => ?_⟩
  · rcases p.h with ⟨_, _, rfl, _⟩ | ⟨e2, _⟩
    · refine ⟨1000 * (val a).toNat, by omega, ?_⟩
      unfold written
      rw [if_pos (by omega), show 1000 * (val a).toNat / 1000 = (val a).toNat by omega, hc]
    · rw [e] at e2
      cases e2
  · rcases p.h with ⟨e2, _⟩ | ⟨_, e2, _⟩
    · rw [e] at e2
      cases e2
    · obtain ⟨r, r0, r1, rfl⟩ := tail_inv gr.1 gr.2.1 gr.2.2.1 gr.2.2.2
      have t5 := (tail_facts r0 r1).2.2.2.2
      refine ⟨1000 * (val a).toNat + r, by rw [t5]; omega, ?_⟩
      unfold written
      rw [if_neg (by omega), show (1000 * (val a).toNat + r) / 1000 = (val a).toNat by omega, hc, show (1000 * (val a).toNat + r) % 1000 = r by omega, e2, List.append_assoc]
      rfl

theorem lg {n : Nat} (h : n < 2 ^ 64) : ((n : Nat) : Int).natAbs.log2 < 1920 := Nat.lt_of_lt_of_le (PySem.Flt.log2_lt_of (k := 64) (by decide) (by omega)) (by decide)
def spText (K : PySem.W.Frag) : Sp := fun vs H Q _ => ∃ n : Nat, vs = [.int n] ∧ n ≤ 1000000000 ∧ ∀ H' : Hp, Same H H' → Q (.str (SX.S (written n))) H'
theorem ok_time_text (T : Txt K mg) : ∃ fd, FnOk P w K mg base CX0 2 (He.fAd K ("time_text", none)) fd ["ticks"] (spText K) ∧ FunD K "time_text" "time_text" (defArgs s_time_text) (defBody s_time_text) (defScope s_time_text) [] [] (He.fAd K ("time_text", none)) fd := by
  obtain ⟨fd, F⟩ := T.c.def_ 2 (d := d_time_text) rfl
  obtain ⟨fd_is_time, G_is_time, F_is_time⟩ := ok_is_time (P := P) (w := w) (base := base) T
  have kp_is_time := F_is_time.kp
  have b_is_time : Binds K fd_is_time ["thing"] [] := FunD.bindsN F_is_time (fun _ _ _ _ _ _ us hl => match us, hl with | [_], _ => rfl)
  refine ⟨fd, F.ok sc_time_text (by walk_at "g94len") (fun cdv A outer st H vs Q E hr h => ?_), F⟩
  · obtain ⟨n, rfl, hn, k⟩ := h
    refine ⟨_, PSs.nox (pss_cons (ps_if (pt_not (pt_val (pe_call G_is_time (hr.mono (by decide)) rfl (glo_is_time T) kp_is_time b_is_time .nil pass0 (pa_cons (pv 0) pa_nil)))) (pss_one ps_never) pss_nil)
        (pss_cons (ps_asg (pe_callB call_divmodK (by rfl) (free_divmod T) (by decide +kernel) (pa_cons (pv 0) (pa_cons pe_int pa_nil))) (pg_tup rfl (pgs_cons (pg_name (i := 1) sc_time_text.nd rfl (Or.inl rfl)) (pgs_cons (pg_name (i := 2) sc_time_text.nd rfl (Or.inl rfl)) pgs_nil))))
        (pss_cons (ps_if (pt_cmpR op_eq (pv 2) pe_int (nomark _)) (pss_one (ps_ret (pe_callTy call_str_int (by rfl) (free_str T) (by decide +kernel) (pa_cons (pv 1) pa_nil)))) pss_nil)
        (pss_one (ps_ret (pe_op op_add_str (pe_op op_add_str (pe_callTy call_str_int (by rfl) (free_str T) (by decide +kernel) (pa_cons (pv 1) pa_nil)) pe_str) (pe_m1 PySem.F.slot_str_rstrip PySem.F.type_str_rstrip mt_rstripChars (pe_m1 PySem.F.slot_str_zfill PySem.F.type_str_zfill mt_zfill (pe_callTy call_str_int (by rfl) (free_str T) (by decide +kernel) (pa_cons (pv 2) pa_nil)) pe_int) pe_str))))))), ?_⟩
    refine ⟨_, rfl, _, _, rfl, .inl ⟨n, rfl, rfl⟩, ?_⟩
    rw [decide_eq_true (show (0 : Int) ≤ n ∧ (n : Int) ≤ 1000000000 by omega)]
    walk_at "wk"
    walk_at "wk"
    walk_at "wk"
    walk_at "wk"
    walk_at "wk"
    rename_i p H1 f1 s1 h1
    rw [show (n : Int) / 1000 = ((n / 1000 : Nat) : Int) by omega, show (n : Int) % 1000 = ((n % 1000 : Nat) : Int) by omega] at h1
    have hw := k _ s1
    unfold written at hw
    refine ⟨p, _, rfl, .of h1, rfl, ?_⟩
    walk_at "rds"
    walk_at "ri" <;> intro c1
    · rw [if_pos (by omega)] at hw
      refine ⟨_, rfl, _, rfl, lg (by omega), ?_⟩
      rw [str_num]
      exact hw
    · rw [if_neg (by omega)] at hw
      refine ⟨_, rfl, _, rfl, lg (by omega), ?_⟩
      rw [str_num]
      refine ⟨_, _, rfl, rfl, ?_, ?_⟩
      · rw [len_S]
        have := TL.numL_len (n := n / 1000) (k := 8) (by decide) (by show n / 1000 < 100000000; omega)
        exact small_size (show (TL.numL (n / 1000)).length + 1 ≤ 100000 by omega)
      refine ⟨_, rfl, _, rfl, lg (by omega), ?_⟩
      rw [str_num]
      refine ⟨⟨_, rfl⟩, _, _, rfl, rfl, by decide +kernel, ⟨_, rfl⟩, _, _, rfl, rfl, ?_, ?_⟩
      · exact small_size (Nat.le_trans (zfill_len (by omega)) (by decide))
      rw [show (("0" : Str)) = SX.S [48] by decide +kernel, pad_tail (by omega) (by omega), show (("." : Str)) = SX.S [46] by decide +kernel, SX.S_cat]
      refine ⟨_, _, rfl, rfl, ?_, ?_⟩
      · have h1 := TL.numL_len (n := n / 1000) (k := 8) (by decide) (by show n / 1000 < 100000000; omega)
        have h2 := (tail_facts (r := n % 1000) (by omega) (by omega)).2.2.1
        rw [len_S, len_S, List.length_append]
        exact small_size (show (TL.numL (n / 1000)).length + 1 + (tail3 (n % 1000)).length ≤ 100000 by omega)
      rw [SX.S_cat]
      exact hw
def spFigs : Sp := fun vs H Q _ => ∃ (l : List Nat) (m : Int), vs = [.str (SX.S l), .int m] ∧ l.length ≤ 10000 ∧ Q (.bl (decide (l ≠ [] ∧ (l.length : Int) ≤ m ∧ l.all isFig = true))) H
theorem ok_are_figures (T : Txt K mg) : ∃ fd, FnOk P w K mg base CX0 1 (He.fAd K ("are_figures", none)) fd ["text", "most"] spFigs ∧ FunD K "are_figures" "are_figures" (defArgs s_are_figures) (defBody s_are_figures) (defScope s_are_figures) [] [] (He.fAd K ("are_figures", none)) fd := by
  obtain ⟨fd, F⟩ := T.c.def_ 3 (d := d_are_figures) rfl
  obtain ⟨t_FIGURES, g_FIGURES⟩ := str_FIGURES T
  refine ⟨fd, F.ok sc_are_figures (by walk_at "g94len") (fun cdv A outer st H vs Q E hr h => ?_), F⟩
  · obtain ⟨l, m, rfl, hl, k⟩ := h
    refine ⟨_, PSs.nox (pss_cons (ps_if (PW.pt (pw_or (pt_cmpR op_eq (pv 0) pe_str (nomark _)) (pw_or1 (pt_cmpR op_gt (pe_callB call_len_str (by rfl) (free_len T) (by decide +kernel) (pa_cons (pv 0) pa_nil)) (pv 1) (nomark _))))) (pss_one (ps_ret pe_bl)) pss_nil)
        (pss_cons (ps_for PassesOwn.never rfl (pi_str (pv 0)) (pg_name (i := 2) sc_are_figures.nd rfl (Or.inl rfl)) (pss_one (ps_if (pt_cmpR op_notIn_sign (pv 2) (pe_glob (v := .str "0123456789") rfl g_FIGURES ⟨_, rfl⟩) rfl) (pss_one (ps_ret pe_bl)) pss_nil)))
        (pss_one (ps_ret pe_bl)))), ?_⟩
    have hsz : (SX.S l).length ≤ sizeLine := by
      rw [len_S]
      exact small_size (by omega)
    have no : ¬ (l ≠ [] ∧ (l.length : Int) ≤ m ∧ l.all isFig = true) → Q (.bl false) H := fun q => by
      rw [decide_eq_false q] at k
      exact k
    walk_at "rds"
    refine iteS (b := []) (by decide +kernel) (fun e0 => ?_) (fun e0 => ?_)
    · walk_at "rds"
      exact no fun q => q.1 e0
    walk_at "rds"
    walk_at "ri" <;> intro c1
    · walk_at "rds"
      exact no fun q => by
        rw [len_S] at c1
        have := q.2.1
        omega
    refine ⟨_, rfl, _, rfl, for_text (l := l) (fun i σ' H' => ∃ v, σ' = [some (.str (SX.S l)), some (.int m), v] ∧ H' = H ∧ (l.take i).all isFig = true) ⟨_, rfl, rfl, rfl⟩ ?_ ?_⟩
    · rintro i c σ' H' hc ⟨v, rfl, rfl, ha⟩
      refine ⟨_, rfl, c, _, rfl, rfl, _, rfl, ?_⟩
      rw [figs_eq]
      refine iteND (fun hn => ?_) (fun hm => ?_)
      · walk_at "rds"
        exact no fun q => hn (fig_iff.mpr (List.all_eq_true.mp q.2.2 c (List.mem_of_getElem? hc)))
      · refine ⟨_, rfl, rfl, ?_⟩
        rw [List.take_add_one, hc, List.all_append, ha]
        have := fig_iff.mp hm
        simpa using this
    rintro σ' H' ⟨v, rfl, rfl, ha⟩
    rw [List.take_length] at ha
    rw [len_S] at c1
    rw [decide_eq_true ⟨e0, by omega, ha⟩] at k
    walk_at "rds"
    exact k

theorem atI_last {l : List Nat} {x : Nat} (h : l.getLast? = some x) : atI l (-1) = some x := by
  have h0 : l ≠ [] := fun e => by rw [e] at h; cases h
  have h1 : 0 < l.length := List.length_pos_iff.mpr h0
  unfold atI ixN
  rw [if_neg (by decide), if_pos (by omega), Option.bind_some]
  rw [show ((-1 : Int) + (l.length : Int)).toNat = l.length - 1 by omega, ← List.getLast?_eq_getElem?]
  exact h
/-- rest.ljust(3, "0") -/
theorem just3 {rs : List Nat} (h1 : rs ≠ []) (h2 : rs.length ≤ 3) : Txt.ljustF (SX.S rs) 3 48 = SX.S ((rs ++ [48, 48]).take 3) := by
  match rs, h1, h2 with
  | [x], _, _ => rfl
  | [x, y], _, _ => rfl
  | [x, y, z], _, _ => rfl
  | _ :: _ :: _ :: _ :: _, _, h => simp at h
/-- what no time's text is, refused -/
def NoTextE (K : PySem.W.Frag) (H : Hp) (E : XK) : Prop := ∀ (d : Addr) H', Same H H' → H' d = some (.xd [("row", .int 0)]) → E (.ref (cNT K)) (some d) H'
theorem noText_raised {K : PySem.W.Frag} {H : Hp} {E : XK} {w : V} (k : NoTextE K H E) : ∀ a, H a = none → spNoText K (.ref a :: ([w] ++ [.int 0])) (upd H a (exo a (cNT K) none))
    (fun v H2 => v = .non ∧ ∃ (d : Addr) (fs : List (Str × V)), H2 a = some (exo a (cNT K) (some d)) ∧ H2 d = some (exd d fs) ∧ H d = none ∧ E (.ref (cNT K)) (some d) (upd (del H2 a) d (.xd fs))) (fun _ _ _ => False) := by
  intro a ha
  refine ⟨a, w, 0, rfl, upd_same, fun d hd ne => ⟨rfl, d, _, upd_same, by rw [upd_ne ne, upd_same], ?_, ?_⟩⟩
  · rw [upd_ne ne] at hd
    exact hd
  · rw [upd_ne ne] at hd
    exact k d _ (raised_same ha hd) upd_same
def spTimeOf (K : PySem.W.Frag) : Sp := fun vs H Q E => ∃ v : V, vs = [v] ∧ ((IsA K H v "str" false ∧ NoTextE K H E) ∨ ∃ l : List Nat, v = .str (SX.S l) ∧ l.length ≤ 1000 ∧
  ((∃ n : Nat, n ≤ 1000000000 ∧ l = written n ∧ ∀ H', Same H H' → Q (.int n) H') ∨ ((∀ n : Nat, n ≤ 1000000000 → l ≠ written n) ∧ NoTextE K H E)))
theorem ok_time_of (T : Txt K mg) : ∃ fd, FnOk P w K mg base (L2.CX P w) 3 (He.fAd K ("time_of", none)) fd ["text"] (spTimeOf K) ∧ FunD K "time_of" "time_of" (defArgs s_time_of) (defBody s_time_of) (defScope s_time_of) [] [] (He.fAd K ("time_of", none)) fd := by
  obtain ⟨fd, F⟩ := T.c.def_ 4 (d := d_time_of) rfl
  obtain ⟨fd_NoText_init, G_NoText_init, F_NoText_init⟩ := ok_NoText_init (P := P) (w := w) (base := base) T
  have kp_NoText_init := F_NoText_init.kp
  obtain ⟨d1_NoText_init, v1_NoText_init, b1_NoText_init⟩ : ∃ ds, Vals ([V.int 0].drop 0) ds ∧ Binds K fd_NoText_init ["self", "words", "row"] ds := F_NoText_init.binds1 2 0 (by decide) rfl (fun _ _ _ _ _ _ _ us its h1 h2 => match us, its, h1, h2 with | [_, _], [_], _, _ => ⟨_, rfl, rfl⟩)
  obtain ⟨fd_is_time, G_is_time, F_is_time⟩ := ok_is_time (P := P) (w := w) (base := base) T
  have kp_is_time := F_is_time.kp
  have b_is_time : Binds K fd_is_time ["thing"] [] := FunD.bindsN F_is_time (fun _ _ _ _ _ _ us hl => match us, hl with | [_], _ => rfl)
  obtain ⟨fd_are_figures, G_are_figures, F_are_figures⟩ := ok_are_figures (P := P) (w := w) (base := base) T
  have kp_are_figures := F_are_figures.kp
  have b_are_figures : Binds K fd_are_figures ["text", "most"] [] := FunD.bindsN F_are_figures (fun _ _ _ _ _ _ us hl => match us, hl with | [_, _], _ => rfl)
  refine ⟨fd, F.ok sc_time_of (by walk_at "g94len") (fun cdv A outer st H vs Q E hr h => ?_), F⟩
  · obtain ⟨v, rfl, ⟨⟨u, h1, h2⟩, k⟩ | ⟨l, rfl, hl, hk⟩⟩ := h
    · refine ⟨_, (pss_cons (ps_if (pt_not (pt_val (pe_callB call_isi (by rfl) (free_isinstance T) (by decide +kernel) (pa_cons (pv 0) (pa_cons (pe_bltn (v := .ty "str") (by rfl) (free_str T) (by decide +kernel) rfl) pa_nil))))) (pss_one (ps_raise rfl (takes_of rfl rfl rfl rfl) (pmk_oex (oex_NoText T) (ini_NoText T) (inf_NoText T) G_NoText_init (hr.mono (by decide)) b1_NoText_init v1_NoText_init pass0 rfl (glo_NoText T) (pa_cons pe_str pa_nil)))) pss_nil)
        (pss_cons (ps_asg (pe_partition (pv 0) pe_str) (pg_tup rfl (pgs_cons (pg_name (i := 1) sc_time_of.nd rfl (Or.inl rfl)) (pgs_cons (pg_name (i := 2) sc_time_of.nd rfl (Or.inl rfl)) (pgs_cons (pg_name (i := 3) sc_time_of.nd rfl (Or.inl rfl)) pgs_nil)))))
        (C8.pss_cut (ps_if (PW.pt (pw_or (pt_not (pt_val (pe_call G_are_figures (hr.mono (by decide)) rfl (glo_are_figures T) kp_are_figures b_are_figures .nil pass0 (pa_cons (pv 1) (pa_cons pe_int pa_nil))))) (pw_or1 (PW.pt (pw_and (pt_cmpR op_ne (pv 1) pe_str (nomark _)) (pw_and1 (pt_cmpR op_eq (pe_ix ix_str (pv 1) pe_int (fun _ _ => rfl)) pe_str (nomark _)))))))) (pss_one (ps_raise rfl (takes_of rfl rfl rfl rfl) (pmk_oex (oex_NoText T) (ini_NoText T) (inf_NoText T) G_NoText_init (hr.mono (by decide)) b1_NoText_init v1_NoText_init pass0 rfl (glo_NoText T) (pa_cons pe_str pa_nil)))) pss_nil)
        (pss_cons (ps_set (i := 4) sc_time_of.nd rfl (Or.inl rfl) (pe_op op_mul pe_int (pe_callTy call_int_str (by rfl) (free_int T) (by decide +kernel) (pa_cons (pv 1) pa_nil))))
        (C8.pss_cut (ps_if (pt_cmpR op_eq (pv 2) pe_str (nomark _)) (pss_cons (ps_if (PW.pt (pw_or (pt_not (pt_val (pe_call G_are_figures (hr.mono (by decide)) rfl (glo_are_figures T) kp_are_figures b_are_figures .nil pass0 (pa_cons (pv 3) (pa_cons pe_int pa_nil))))) (pw_or1 (pt_cmpR op_eq (pe_ix ix_str (pv 3) pe_negC (fun _ _ => rfl)) pe_str (nomark _))))) (pss_one (ps_raise rfl (takes_of rfl rfl rfl rfl) (pmk_oex (oex_NoText T) (ini_NoText T) (inf_NoText T) G_NoText_init (hr.mono (by decide)) b1_NoText_init v1_NoText_init pass0 rfl (glo_NoText T) (pa_cons pe_str pa_nil)))) pss_nil)
        (pss_one (ps_aug (i := 4) sc_time_of.nd rfl (Or.inl rfl) (pe_callTy call_int_str (by rfl) (free_int T) (by decide +kernel) (pa_cons (pe_bm PySem.F.plainAttrs_str PySem.F.slot_str_ljust PySem.F.type_str_ljust mt_ljustF (pv 3) (pa_cons pe_int (pa_cons pe_str pa_nil))) pa_nil)) ip_add))) pss_nil)
        (pss_cons (ps_if (pt_not (pt_val (pe_call G_is_time (hr.mono (by decide)) rfl (glo_is_time T) kp_is_time b_is_time .nil pass0 (pa_cons (pv 4) pa_nil)))) (pss_one (ps_raise rfl (takes_of rfl rfl rfl rfl) (pmk_oex (oex_NoText T) (ini_NoText T) (inf_NoText T) G_NoText_init (hr.mono (by decide)) b1_NoText_init v1_NoText_init pass0 rfl (glo_NoText T) (pa_cons pe_str pa_nil)))) pss_nil)
        (pss_one (ps_ret (pv 4))))))))), ?_⟩
      refine ⟨_, rfl, _, _, _, _, false, rfl, .ty _, h1, h2, ?_⟩
      walk_at "wks"
      exact ⟨Nat.le_of_ble_eq_true rfl, noText_raised k⟩
    · refine ⟨_, (pss_cons (ps_if (pt_not (pt_val (pe_callB call_isi (by rfl) (free_isinstance T) (by decide +kernel) (pa_cons (pv 0) (pa_cons (pe_bltn (v := .ty "str") (by rfl) (free_str T) (by decide +kernel) rfl) pa_nil))))) (pss_one (ps_raise rfl (takes_of rfl rfl rfl rfl) (pmk_oex (oex_NoText T) (ini_NoText T) (inf_NoText T) G_NoText_init (hr.mono (by decide)) b1_NoText_init v1_NoText_init pass0 rfl (glo_NoText T) (pa_cons pe_str pa_nil)))) pss_nil)
        (pss_cons (ps_asg (pe_partition (pv 0) pe_str) (pg_tup rfl (pgs_cons (pg_name (i := 1) sc_time_of.nd rfl (Or.inl rfl)) (pgs_cons (pg_name (i := 2) sc_time_of.nd rfl (Or.inl rfl)) (pgs_cons (pg_name (i := 3) sc_time_of.nd rfl (Or.inl rfl)) pgs_nil)))))
        (C8.pss_cut (ps_if (PW.pt (pw_or (pt_not (pt_val (pe_call G_are_figures (hr.mono (by decide)) rfl (glo_are_figures T) kp_are_figures b_are_figures .nil pass0 (pa_cons (pv 1) (pa_cons pe_int pa_nil))))) (pw_or1 (PW.pt (pw_and (pt_cmpR op_ne (pv 1) pe_str (nomark _)) (pw_and1 (pt_cmpR op_eq (pe_ix ix_str (pv 1) pe_int (fun _ _ => rfl)) pe_str (nomark _)))))))) (pss_one (ps_raise rfl (takes_of rfl rfl rfl rfl) (pmk_oex (oex_NoText T) (ini_NoText T) (inf_NoText T) G_NoText_init (hr.mono (by decide)) b1_NoText_init v1_NoText_init pass0 rfl (glo_NoText T) (pa_cons pe_str pa_nil)))) pss_nil)
        (pss_cons (ps_set (i := 4) sc_time_of.nd rfl (Or.inl rfl) (pe_op op_mul pe_int (pe_callTy call_int_str (by rfl) (free_int T) (by decide +kernel) (pa_cons (pv 1) pa_nil))))
        (C8.pss_cut (ps_if (pt_cmpR op_eq (pv 2) pe_str (nomark _)) (pss_cons (ps_if (PW.pt (pw_or (pt_not (pt_val (pe_call G_are_figures (hr.mono (by decide)) rfl (glo_are_figures T) kp_are_figures b_are_figures .nil pass0 (pa_cons (pv 3) (pa_cons pe_int pa_nil))))) (pw_or1 (pt_cmpR op_eq (pe_ix ix_str (pv 3) pe_negC (fun _ _ => rfl)) pe_str (nomark _))))) (pss_one (ps_raise rfl (takes_of rfl rfl rfl rfl) (pmk_oex (oex_NoText T) (ini_NoText T) (inf_NoText T) G_NoText_init (hr.mono (by decide)) b1_NoText_init v1_NoText_init pass0 rfl (glo_NoText T) (pa_cons pe_str pa_nil)))) pss_nil)
        (pss_one (ps_aug (i := 4) sc_time_of.nd rfl (Or.inl rfl) (pe_callTy call_int_str (by rfl) (free_int T) (by decide +kernel) (pa_cons (pe_bm PySem.F.plainAttrs_str PySem.F.slot_str_ljust PySem.F.type_str_ljust mt_ljustF (pv 3) (pa_cons pe_int (pa_cons pe_str pa_nil))) pa_nil)) ip_add))) pss_nil)
        (pss_cons (ps_if (pt_not (pt_val (pe_call G_is_time (hr.mono (by decide)) rfl (glo_is_time T) kp_is_time b_is_time .nil pass0 (pa_cons (pv 4) pa_nil)))) (pss_one (ps_raise rfl (takes_of rfl rfl rfl rfl) (pmk_oex (oex_NoText T) (ini_NoText T) (inf_NoText T) G_NoText_init (hr.mono (by decide)) b1_NoText_init v1_NoText_init pass0 rfl (glo_NoText T) (pa_cons pe_str pa_nil)))) pss_nil)
        (pss_one (ps_ret (pv 4))))))))), ?_⟩
      walk_at "wks"
      obtain ⟨a, pt, rs, hpart, hp⟩ := parts l
      refine ⟨⟨_, rfl⟩, _, _, rfl, rfl, by decide +kernel, by rw [len_S]; exact small_size (by omega), ?_⟩
      rw [hpart]
      intro p hq
      have s1 := (Same.refl H).new (o := HO.tup [V.str (SX.S a), V.str (SX.S pt), V.str (SX.S rs)]) hq
      have q1 : upd H p (HO.tup [V.str (SX.S a), V.str (SX.S pt), V.str (SX.S rs)]) p = some (HO.tup [V.str (SX.S a), V.str (SX.S pt), V.str (SX.S rs)]) := upd_same
      generalize upd H p (HO.tup [V.str (SX.S a), V.str (SX.S pt), V.str (SX.S rs)]) = H1 at s1 q1 ⊢
      refine ⟨p, _, rfl, .of q1, rfl, _, _, rfl, _, _, rfl, _, _, rfl, rfl, ?_⟩
      have bad : (∀ n : Nat, n ≤ 1000000000 → l ≠ written n) → NoTextE K H1 E := fun q => by
        rcases hk with ⟨n, hn, e, _⟩ | ⟨_, k⟩
        · exact absurd e (q n hn)
        · exact fun d H' s => k d H' (s1.trans s)
      have la : a.length ≤ l.length ∧ rs.length ≤ l.length := by
        rcases hp.h with ⟨_, rfl, rfl, _⟩ | ⟨_, e, _⟩
        · exact ⟨Nat.le_refl _, Nat.zero_le _⟩
        · rw [e, List.length_append, List.length_cons]
          omega
      refine ⟨fun σ' H' => σ' = [some (.str (SX.S l)), some (.str (SX.S a)), some (.str (SX.S pt)), some (.str (SX.S rs)), none] ∧ H' = H1 ∧ GoodS a ∧ a.length ≤ 7, ?_, ?_⟩
      · refine ⟨_, rfl, a, 7, rfl, by omega, ?_⟩
        by_cases hf : (a ≠ [] ∧ (a.length : Int) ≤ 7 ∧ a.all isFig = true)
        · rw [decide_eq_true hf]
          walk_at "wks"
          refine iteNSt (b := [48]) (by decide +kernel) (fun h0 => ?_) (fun h0 => ?_)
          · obtain ⟨c, r, rfl⟩ : ∃ c r, a = c :: r := match a, hf.1 with | c :: r, _ => ⟨c, r, rfl⟩
            refine ⟨_, rfl, _, 0, c, rfl, rfl, by rw [len_S]; exact small_size (by omega), atI_head _ _, rfl, _, rfl, ?_⟩
            refine iteS (a := [c]) (b := [48]) (by decide +kernel) (fun e1 => ?_) (fun e1 => ?_)
            · refine ⟨Nat.le_of_ble_eq_true rfl, noText_raised (bad fun n hn e => ?_)⟩
              obtain ⟨⟨_, _, g⟩, _⟩ := good_written hp hn e
              rcases g with g | g
              · exact h0 g
              · exact g (by rw [List.head?_cons, (List.cons.inj e1).1])
            · exact ⟨rfl, rfl, ⟨hf.1, hf.2.2, .inr fun q => e1 (by rw [Option.some.inj q])⟩, by omega⟩
          · exact ⟨rfl, rfl, ⟨hf.1, hf.2.2, .inl h0⟩, by omega⟩
        · rw [decide_eq_false hf]
          walk_at "wks"
          refine ⟨Nat.le_of_ble_eq_true rfl, noText_raised (bad fun n hn e => ?_)⟩
          obtain ⟨⟨g1, g2, _⟩, g3, _⟩ := good_written hp hn e
          exact hf ⟨g1, by omega, g2⟩
      rintro σ' H' ⟨rfl, rfl, ga, la7⟩
      have hint : intText? (SX.S a) = some (val a) := by
        rw [val_digits ga.2.1]
        exact SX.int_S ga.2.1 ga.1 (by omega)
      have hs7 : (SX.S a).length ≤ 640 := by rw [len_S]; omega
      walk_at "wks"
      refine ⟨fun σ' H2 => ∃ t : Int, σ' = [some (.str (SX.S l)), some (.str (SX.S a)), some (.str (SX.S pt)), some (.str (SX.S rs)), some (.int t)] ∧ H2 = H' ∧ ((pt = [] ∧ t = 1000 * val a) ∨ (pt = [46] ∧ GoodR rs ∧ t = 1000 * val a + val ((rs ++ [48, 48]).take 3))), ?_, ?_⟩
      · walk_at "wks"
        refine iteS (b := [46]) (by decide +kernel) (fun e0 => ?_) (fun e0 => ?_)
        · subst e0
          walk_at "wks"
          refine iteND (fun hr => ?_) (fun hr => ?_)
          · refine ⟨Nat.le_of_ble_eq_true rfl, noText_raised (bad fun n hn e => ?_)⟩
            rcases (good_written hp hn e).2.2 with ⟨q, _⟩ | ⟨_, g, _⟩
            · cases q
            · exact hr ⟨g.1, by have := g.2.1; omega, g.2.2.1⟩
          · obtain ⟨c, hc⟩ : ∃ c, rs.getLast? = some c := by
              cases e : rs.getLast? with
              | none => exact absurd (List.getLast?_eq_none_iff.mp e) hr.1
              | some c => exact ⟨c, rfl⟩
            have hrs : (SX.S rs).length ≤ sizeLine := by
              rw [len_S]
              exact small_size (by omega)
            refine ⟨_, rfl, _, -1, c, rfl, rfl, hrs, atI_last hc, rfl, _, rfl, ?_⟩
            refine iteS (a := [c]) (b := [48]) (by decide +kernel) (fun e1 => ?_) (fun e1 => ?_)
            · refine ⟨Nat.le_of_ble_eq_true rfl, noText_raised (bad fun n hn e => ?_)⟩
              rcases (good_written hp hn e).2.2 with ⟨q, _⟩ | ⟨_, g, _⟩
              · cases q
              · exact g.2.2.2 (by rw [hc, (List.cons.inj e1).1])
            · have gr : GoodR rs := ⟨hr.1, by omega, hr.2.2, fun q => e1 (by rw [hc] at q; rw [Option.some.inj q])⟩
              have hj : Txt.ljustF (SX.S rs) 3 ((Str.ofString "0").cps.getD 0 0) = SX.S ((rs ++ [48, 48]).take 3) := just3 gr.1 gr.2.1
              have ht3 : ((rs ++ [48, 48]).take 3).all isFig = true := by
                rw [List.all_eq_true]
                intro c hc
                rcases List.mem_append.mp (List.mem_of_mem_take hc) with hc | hc
                · exact List.all_eq_true.mp gr.2.2.1 c hc
                · simp only [List.mem_cons, List.not_mem_nil, or_false] at hc
                  rcases hc with rfl | rfl <;> decide
              have hl3 : ((rs ++ [48, 48]).take 3).length ≤ 3 := by
                rw [List.length_take]
                exact Nat.min_le_left _ _
              have hn3 : (rs ++ [48, 48]).take 3 ≠ [] := by
                cases rs with
                | nil => exact absurd rfl gr.1
                | cons x s => exact List.cons_ne_nil _ _
              have hint2 : intText? (SX.S ((rs ++ [48, 48]).take 3)) = some (val ((rs ++ [48, 48]).take 3)) := by
                rw [val_digits ht3]
                exact SX.int_S ht3 hn3 (by omega)
              have hs3 : (SX.S ((rs ++ [48, 48]).take 3)).length ≤ 640 := by
                rw [len_S]
                omega
              walk_at "wks"
              refine ⟨_, _, 3, rfl, rfl, by decide +kernel, by decide +kernel, ?_⟩
              rw [hj]
              walk_at "wks"
              exact .inr ⟨rfl, gr, rfl⟩
        · refine ⟨_, rfl, rfl, .inl ⟨?_, rfl⟩⟩
          rcases hp.h with ⟨q, _⟩ | ⟨q, _⟩
          · exact q
          · exact absurd q e0
      · rintro σ' H2 ⟨t, rfl, rfl, ht⟩
        walk_at "wks"
        refine ⟨_, _, rfl, .inl ⟨t, rfl, rfl⟩, ?_⟩
        by_cases h9 : 0 ≤ t ∧ t ≤ 1000000000
        · rw [decide_eq_true h9]
          walk_at "wks"
          rcases hk with ⟨n, hn, e, k⟩ | ⟨q, _⟩
          · have en : t = n := by
              rcases (good_written hp hn e).2.2 with ⟨q, e2⟩ | ⟨q, _, e2⟩
              · rcases ht with ⟨_, e3⟩ | ⟨q2, _⟩
                · omega
                · rw [q] at q2
                  cases q2
              · rcases ht with ⟨q2, _⟩ | ⟨_, _, e3⟩
                · rw [q] at q2
                  cases q2
                · omega
            rw [en]
            exact k _ s1
          · rcases ht with ⟨q2, e3⟩ | ⟨q2, gr, e3⟩
            · obtain ⟨n, e4, e5⟩ := (written_good hp ga).1 q2
              exact absurd e5 (q n (by omega))
            · obtain ⟨n, e4, e5⟩ := (written_good hp ga).2 q2 gr
              exact absurd e5 (q n (by omega))
        · rw [decide_eq_false h9]
          walk_at "wks"
          refine ⟨Nat.le_of_ble_eq_true rfl, noText_raised (bad fun n hn e => ?_)⟩
          rcases (good_written hp hn e).2.2 with ⟨q, e2⟩ | ⟨q, _, e2⟩
          · rcases ht with ⟨_, e3⟩ | ⟨q2, _⟩
            · omega
            · rw [q] at q2
              cases q2
          · rcases ht with ⟨q2, _⟩ | ⟨_, _, e3⟩
            · rw [q] at q2
              cases q2
            · omega
def optV : Option Int → V
  | none => .non
  | some i => .int i
theorem find_no {c : Nat} (h : isFig c = false) : Txt.find (SX.S figs) (SX.S [c]) = -1 := by
  rcases PyProof.Rows.find_spec (SX.S figs) (SX.S [c]) with e | ⟨i, _, hi, e⟩
  · exact e
  · rw [len_S, len_S] at hi
    have hi : i + 1 ≤ 10 := hi
    have yes : ∀ d, isFig d = true → Builtin.Str.strSub (SX.S figs) i (i + 1) = SX.S [d] → False := fun d hd e2 => by
      have e3 : SX.S [c] = SX.S [d] := e.symm.trans e2
      have e4 := SX.S_inj e3
      rw [(List.cons.inj e4).1, hd] at h
      cases h
    rcases (by omega : i = 0 ∨ i = 1 ∨ i = 2 ∨ i = 3 ∨ i = 4 ∨ i = 5 ∨ i = 6 ∨ i = 7 ∨ i = 8 ∨ i = 9) with rfl | rfl | rfl | rfl | rfl | rfl | rfl | rfl | rfl | rfl
    · exact (yes 48 (by decide) (by decide +kernel)).elim
    · exact (yes 49 (by decide) (by decide +kernel)).elim
    · exact (yes 50 (by decide) (by decide +kernel)).elim
    · exact (yes 51 (by decide) (by decide +kernel)).elim
    · exact (yes 52 (by decide) (by decide +kernel)).elim
    · exact (yes 53 (by decide) (by decide +kernel)).elim
    · exact (yes 54 (by decide) (by decide +kernel)).elim
    · exact (yes 55 (by decide) (by decide +kernel)).elim
    · exact (yes 56 (by decide) (by decide +kernel)).elim
    · exact (yes 57 (by decide) (by decide +kernel)).elim
def spNumber : Sp := fun vs H Q _ => ∃ l : List Nat, vs = [.str (SX.S l)] ∧ l.length ≤ 1000 ∧ Q (optV (if l.all isFig = true then some (val l) else none)) H
theorem ok_l_number (T : Txt K mg) : ∃ fd, FnOk P w K mg base CX0 1 (He.fAd K ("_law_number", none)) fd ["_law_figures"] spNumber ∧ FunD K "_law_number" "_law_number" (defArgs s_l_number) (defBody s_l_number) (defScope s_l_number) [] [] (He.fAd K ("_law_number", none)) fd := by
  obtain ⟨fd, F⟩ := T.c.def_ 11 (d := d_l_number) rfl
  refine ⟨fd, F.ok sc_l_number (by walk_at "g94len") (fun cdv A outer st H vs Q E hr h => ?_), F⟩
  · obtain ⟨l, rfl, hlen, k⟩ := h
    refine ⟨_, PSs.nox (pss_cons (ps_set (i := 1) sc_l_number.nd rfl (Or.inl rfl) pe_int)
        (pss_cons (ps_for PassesOwn.never rfl (pi_str (pv 0)) (pg_name (i := 2) sc_l_number.nd rfl (Or.inl rfl)) (pss_cons (ps_set (i := 3) sc_l_number.nd rfl (Or.inl rfl) (pe_m1 PySem.F.slot_str_find PySem.F.type_str_find mt_find pe_str (pv 2)))
        (pss_cons (ps_if (pt_cmpR op_lt (pv 3) pe_int (nomark _)) (pss_one (ps_ret pe_non)) pss_nil)
        (pss_one (ps_set (i := 1) sc_l_number.nd rfl (Or.inl rfl) (pe_op op_add (pe_op op_mul pe_int (pv 1)) (pv 3)))))))
        (pss_one (ps_ret (pv 1))))), ?_⟩
    refine ⟨_, rfl, _, rfl, for_text (l := l) (fun i σ' H2 => ∃ v u, σ' = [some (.str (SX.S l)), some (.int (val (l.take i))), v, u] ∧ H2 = H ∧ (l.take i).all isFig = true) ⟨_, _, rfl, rfl, rfl⟩ ?_ ?_⟩
    · rintro i c σ' H2 hc ⟨v, u, rfl, rfl, ha⟩
      have hb := val_bound _ (l.take i) rfl ha
      refine ⟨⟨_, rfl⟩, _, rfl, _, _, rfl, rfl, ?_⟩
      rw [figs_eq, show (⟨#[c]⟩ : Str) = SX.S [c] from rfl]
      cases hf : isFig c with
      | true =>
        have hf2 := fig_of hf
        rw [find_fig hf]
        walk_at "rds"
        refine iteDF (by omega) ?_
        refine ⟨_, rfl, _, _, rfl, rfl, .inl ⟨by decide, by decide⟩, _, rfl, _, _, rfl, rfl, some (V.str (SX.S [c])), some (V.int ((c : Int) - 48)), ?_, rfl, ?_⟩
        · rw [show val (l.take (i + 1)) = 10 * val (l.take i) + ((c : Int) - 48) by
            rw [List.take_add_one, hc]
            exact val_snoc _ _]
          rfl
        · rw [List.take_add_one, hc, List.all_append, ha]
          show (true && ([c].all isFig)) = true
          rw [List.all_cons, hf]
          rfl
      | false =>
        rw [find_no hf]
        walk_at "rds"
        have no : ¬ l.all isFig = true := fun q => by
          rw [List.all_eq_true.mp q c (List.mem_of_getElem? hc)] at hf
          cases hf
        rw [if_neg no] at k
        exact k
    rintro σ' H2 ⟨v, u, rfl, rfl, ha⟩
    rw [List.take_length] at ha ⊢
    rw [if_pos ha] at k
    exact ⟨_, rfl, k⟩
def spTicksL : Sp := fun vs H Q _ => ∃ l : List Nat, vs = [.str (SX.S l)] ∧ l.length ≤ 900 ∧ ((∃ n : Nat, n ≤ 1000000000 ∧ l = written n ∧ ∀ H', Same H H' → Q (.int n) H') ∨ ((∀ n : Nat, n ≤ 1000000000 → l ≠ written n) ∧ ∀ H', Same H H' → Q .non H'))
theorem ok_l_ticks (T : Txt K mg) : ∃ fd, FnOk P w K mg base CX0 2 (He.fAd K ("_law_ticks", none)) fd ["_law_text_here"] spTicksL ∧ FunD K "_law_ticks" "_law_ticks" (defArgs s_l_ticks) (defBody s_l_ticks) (defScope s_l_ticks) [] [] (He.fAd K ("_law_ticks", none)) fd := by
  obtain ⟨fd, F⟩ := T.c.def_ 12 (d := d_l_ticks) rfl
  obtain ⟨fd_l_number, G_l_number, F_l_number⟩ := ok_l_number (P := P) (w := w) (base := base) T
  have kp_l_number := F_l_number.kp
  have b_l_number : Binds K fd_l_number ["_law_figures"] [] := FunD.bindsN F_l_number (fun _ _ _ _ _ _ us hl => match us, hl with | [_], _ => rfl)
  refine ⟨fd, F.ok sc_l_ticks (by walk_at "g94len") (fun cdv A outer st H vs Q E hr h => ?_), F⟩
  · obtain ⟨l, rfl, hl, hk⟩ := h
    refine ⟨_, PSs.nox (pss_cons (ps_asg (pe_partition (pv 0) pe_str) (pg_tup rfl (pgs_cons (pg_name (i := 1) sc_l_ticks.nd rfl (Or.inl rfl)) (pgs_cons (pg_name (i := 2) sc_l_ticks.nd rfl (Or.inl rfl)) (pgs_cons (pg_name (i := 3) sc_l_ticks.nd rfl (Or.inl rfl)) pgs_nil)))))
        (C8.pss_cut (ps_if (PW.pt (pw_or (pt_cmpR op_eq (pv 1) pe_str (nomark _)) (pw_or (PW.pt (pw_and (pt_cmpR op_ne (pv 1) pe_str (nomark _)) (pw_and1 (pt_cmpR op_eq (pe_ix ix_str (pv 1) pe_int (fun _ _ => rfl)) pe_str (nomark _))))) (pw_or1 (pt_cmpR op_isN (pe_call G_l_number (hr.mono (by decide)) rfl (glo__law_number T) kp_l_number b_l_number .nil pass0 (pa_cons (pv 1) pa_nil)) pe_non (nomark _)))))) (pss_one (ps_ret pe_non)) pss_nil)
        (pss_cons (ps_set (i := 4) sc_l_ticks.nd rfl (Or.inl rfl) (pe_op op_mul pe_int (pe_call G_l_number (hr.mono (by decide)) rfl (glo__law_number T) kp_l_number b_l_number .nil pass0 (pa_cons (pv 1) pa_nil))))
        (C8.pss_cut (ps_if (pt_cmpR op_eq (pv 2) pe_str (nomark _)) (pss_cons (ps_if (PW.pt (pw_or (pt_cmpR op_eq (pv 3) pe_str (nomark _)) (pw_or (pt_cmpR op_gt (pe_callB call_len_str (by rfl) (free_len T) (by decide +kernel) (pa_cons (pv 3) pa_nil)) pe_int (nomark _)) (pw_or (pt_cmpR op_eq (pe_ix ix_str (pv 3) pe_negC (fun _ _ => rfl)) pe_str (nomark _)) (pw_or1 (pt_cmpR op_isN (pe_call G_l_number (hr.mono (by decide)) rfl (glo__law_number T) kp_l_number b_l_number .nil pass0 (pa_cons (pv 3) pa_nil)) pe_non (nomark _))))))) (pss_one (ps_ret pe_non)) pss_nil)
        (pss_one (ps_set (i := 4) sc_l_ticks.nd rfl (Or.inl rfl) (pe_op op_add (pv 4) (pe_call G_l_number (hr.mono (by decide)) rfl (glo__law_number T) kp_l_number b_l_number .nil pass0 (pa_cons (pe_slice C8.sl_txt (pe_op op_add_str (pv 3) pe_str) po_none (po_some pe_int)) pa_nil)))))) pss_nil)
        (pss_cons (ps_if (pt_cmpR op_gt (pv 4) (pe_powC (v := 1000000000) (by rfl) (by decide +kernel)) (nomark _)) (pss_one (ps_ret pe_non)) pss_nil)
        (pss_one (ps_ret (pv 4)))))))), ?_⟩
    obtain ⟨a, pt, rs, hpart, hp⟩ := parts l
    refine ⟨_, rfl, ⟨_, rfl⟩, _, _, rfl, rfl, by decide +kernel, by rw [len_S]; exact small_size (by omega), ?_⟩
    rw [hpart]
    intro p hq
    have s1 := (Same.refl H).new (o := HO.tup [V.str (SX.S a), V.str (SX.S pt), V.str (SX.S rs)]) hq
    have q1 : upd H p (HO.tup [V.str (SX.S a), V.str (SX.S pt), V.str (SX.S rs)]) p = some (HO.tup [V.str (SX.S a), V.str (SX.S pt), V.str (SX.S rs)]) := upd_same
    generalize upd H p (HO.tup [V.str (SX.S a), V.str (SX.S pt), V.str (SX.S rs)]) = H1 at s1 q1 ⊢
    refine ⟨p, _, rfl, .of q1, rfl, _, _, rfl, _, _, rfl, _, _, rfl, rfl, ?_⟩
    have bad : (∀ n : Nat, n ≤ 1000000000 → l ≠ written n) → Q .non H1 := fun q => by
      rcases hk with ⟨n, hn, e, _⟩ | ⟨_, k⟩
      · exact absurd e (q n hn)
      · exact k _ s1
    have la : a.length ≤ l.length ∧ rs.length ≤ l.length := by
      rcases hp.h with ⟨_, rfl, rfl, _⟩ | ⟨_, e, _⟩
      · exact ⟨Nat.le_refl _, Nat.zero_le _⟩
      · rw [e, List.length_append, List.length_cons]
        omega
    refine ⟨fun σ' H' => σ' = [some (.str (SX.S l)), some (.str (SX.S a)), some (.str (SX.S pt)), some (.str (SX.S rs)), none] ∧ H' = H1 ∧ GoodS a, ?_, ?_⟩
    · walk_at "rds"
      refine iteS (b := []) (by decide +kernel) (fun e0 => ?_) (fun e0 => ?_)
      · walk_at "rds"
        exact bad fun n hn e => (good_written hp hn e).1.1 e0
      walk_at "rds"
      refine iteNSt (b := [48]) (by decide +kernel) (fun h0 => ?_) (fun h0 => ?_)
      · obtain ⟨c, r, rfl⟩ : ∃ c r, a = c :: r := match a, e0 with | c :: r, _ => ⟨c, r, rfl⟩
        refine ⟨_, rfl, _, 0, c, rfl, rfl, by rw [len_S]; exact small_size (by omega), atI_head _ _, rfl, _, rfl, ?_⟩
        refine iteS (a := [c]) (b := [48]) (by decide +kernel) (fun e1 => ?_) (fun e1 => ?_)
        · walk_at "rds"
          refine bad fun n hn e => ?_
          obtain ⟨⟨_, _, g⟩, _⟩ := good_written hp hn e
          rcases g with g | g
          · exact h0 g
          · exact g (by rw [List.head?_cons, (List.cons.inj e1).1])
        · walk_at "rds"
          by_cases hf : (c :: r).all isFig = true
          · rw [if_pos hf]
            walk_at "rds"
            exact .inr fun q => e1 (by rw [Option.some.inj q])
          · rw [if_neg hf]
            walk_at "rds"
            exact bad fun n hn e => hf (good_written hp hn e).1.2.1
      · walk_at "rds"
        by_cases hf : a.all isFig = true
        · rw [if_pos hf]
          walk_at "rds"
          exact .inl h0
        · rw [if_neg hf]
          walk_at "rds"
          exact bad fun n hn e => hf (good_written hp hn e).1.2.1
    rintro σ' H' ⟨rfl, rfl, ga⟩
    walk_at "rds"
    rw [if_pos ga.2.1]
    walk_at "rds"
    refine ⟨fun σ' H2 => ∃ t : Int, σ' = [some (.str (SX.S l)), some (.str (SX.S a)), some (.str (SX.S pt)), some (.str (SX.S rs)), some (.int t)] ∧ H2 = H' ∧ ((pt = [] ∧ t = 1000 * val a) ∨ (pt = [46] ∧ GoodR rs ∧ t = 1000 * val a + val ((rs ++ [48, 48]).take 3))), ?_, ?_⟩
    · walk_at "rds"
      refine iteS (b := [46]) (by decide +kernel) (fun e0 => ?_) (fun e0 => ?_)
      · subst e0
        have badR : ¬ GoodR rs → Q .non H' := fun q => bad fun n hn e => by
          rcases (good_written hp hn e).2.2 with ⟨z, _⟩ | ⟨_, g, _⟩
          · cases z
          · exact q g
        have hrs : (SX.S rs).length ≤ sizeLine := by
          rw [len_S]
          exact small_size (by omega)
        walk_at "rds"
        refine iteS (b := []) (by decide +kernel) (fun r0 => ?_) (fun r0 => ?_)
        · walk_at "rds"
          exact badR fun g => g.1 r0
        walk_at "rds"
        walk_at "ri" <;> intro c1
        · walk_at "rds"
          exact badR fun g => by
            rw [len_S] at c1
            have := g.2.1
            omega
        rw [len_S] at c1
        obtain ⟨c, hc⟩ : ∃ c, rs.getLast? = some c := by
          cases e : rs.getLast? with
          | none => exact absurd (List.getLast?_eq_none_iff.mp e) r0
          | some c => exact ⟨c, rfl⟩
        refine ⟨_, rfl, _, -1, c, rfl, rfl, hrs, atI_last hc, rfl, _, rfl, ?_⟩
        refine iteS (a := [c]) (b := [48]) (by decide +kernel) (fun e1 => ?_) (fun e1 => ?_)
        · walk_at "rds"
          exact badR fun g => g.2.2.2 (by rw [hc, (List.cons.inj e1).1])
        walk_at "rds"
        by_cases hf : rs.all isFig = true
        · rw [if_pos hf]
          walk_at "rds"
          have gr : GoodR rs := ⟨r0, by omega, hf, fun q => e1 (by rw [hc] at q; rw [Option.some.inj q])⟩
          have ht3 : ((rs ++ [48, 48]).take 3).all isFig = true := by
            rw [List.all_eq_true]
            intro c hc
            rcases List.mem_append.mp (List.mem_of_mem_take hc) with hc | hc
            · exact List.all_eq_true.mp hf c hc
            · simp only [List.mem_cons, List.not_mem_nil, or_false] at hc
              rcases hc with rfl | rfl <;> decide
          walk_at "rds"
          rw [show (("00" : Str)) = SX.S [48, 48] by decide +kernel]
          refine ⟨by rw [len_S, len_S]; exact small_size (show rs.length + 2 ≤ 100000 by omega), ?_⟩
          rw [SX.S_cat]
          refine ⟨_, rfl, SX.S _, rfl, by rw [len_S, List.length_append]; exact small_size (show rs.length + 2 ≤ 100000 by omega), ?_⟩
          rw [SX.slice_to (by decide)]
          refine ⟨_, rfl, ?_, ?_⟩
          · rw [List.length_take]
            exact Nat.le_trans (Nat.min_le_left _ _) (by decide)
          rw [show (if (List.take (Int.toNat 3) (rs ++ [48, 48])).all isFig = true then some (val (List.take (Int.toNat 3) (rs ++ [48, 48]))) else none) = some (val ((rs ++ [48, 48]).take 3)) from by rw [show Int.toNat 3 = 3 from rfl, if_pos ht3]]
          walk_at "rds"
          exact .inr ⟨rfl, gr, rfl⟩
        · rw [if_neg hf]
          walk_at "rds"
          exact badR fun g => hf g.2.2.1
      · refine ⟨_, rfl, rfl, .inl ⟨?_, rfl⟩⟩
        rcases hp.h with ⟨q, _⟩ | ⟨q, _⟩
        · exact q
        · exact absurd q e0
    rintro σ' H2 ⟨t, rfl, rfl, ht⟩
    have en : ∀ n : Nat, n ≤ 1000000000 → l = written n → t = n := fun n hn e => by
      rcases (good_written hp hn e).2.2 with ⟨q, e2⟩ | ⟨q, _, e2⟩
      · rcases ht with ⟨_, e3⟩ | ⟨q2, _⟩
        · omega
        · rw [q] at q2
          cases q2
      · rcases ht with ⟨q2, _⟩ | ⟨_, _, e3⟩
        · rw [q] at q2
          cases q2
        · omega
    walk_at "rds"
    walk_at "ri" <;> intro c1
    · walk_at "rds"
      exact bad fun n hn e => by
        have := en n hn e
        omega
    · walk_at "rds"
      rcases hk with ⟨n, hn, e, k⟩ | ⟨q, _⟩
      · rw [en n hn e]
        exact k _ s1
      · rcases ht with ⟨q2, e3⟩ | ⟨q2, gr, e3⟩
        · obtain ⟨n, e4, e5⟩ := (written_good hp ga).1 q2
          exact absurd e5 (q n (by omega))
        · obtain ⟨n, e4, e5⟩ := (written_good hp ga).2 q2 gr
          exact absurd e5 (q n (by omega))

theorem sign_at {z : Str} {n : Nat} (hz : z.length = n) {k : Int} (h0 : 0 ≤ k) (h1 : k < n) : ∃ c, atI z.cps.toList k = some c := by
  have hl : k.toNat < z.cps.toList.length := by
    have : z.cps.toList.length = n := by
      rw [← hz]
      simp [Str.length]
    omega
  obtain ⟨j, rfl⟩ : ∃ j : Nat, k = j := ⟨k.toNat, by omega⟩
  exact ⟨_, atI_nat (List.getElem?_eq_getElem (by simpa using hl))⟩

theorem ix_some {z : Str} {N : Nat} {k : Int} {H : Hp} {Q : VK} (hz : z.length = N) (hs : N ≤ 100000) (h0 : 0 ≤ k) (h1 : k < N) (q : ∀ c, Q (.str (SX.S [c])) H) : rIxS (.str z) (.int k) H Q := by
  obtain ⟨c, hc⟩ := sign_at hz h0 h1
  exact ⟨z, k, c, rfl, rfl, by rw [hz]; exact small_size hs, hc, q c⟩
def spSign : Sp := fun vs H Q _ => ∃ n : Int, vs = [.int n] ∧ ∀ c : Nat, Q (.str (SX.S [c])) H
theorem ok_l_sign_by (T : Txt K mg) : ∃ fd, FnOk P w K mg base CX0 1 (He.fAd K ("_law_sign_by", none)) fd ["_law_cell"] spSign ∧ FunD K "_law_sign_by" "_law_sign_by" (defArgs s_l_sign_by) (defBody s_l_sign_by) (defScope s_l_sign_by) [] [] (He.fAd K ("_law_sign_by", none)) fd := by
  obtain ⟨fd, F⟩ := T.c.def_ 7 (d := d_l_sign_by) rfl
  refine ⟨fd, F.ok sc_l_sign_by (by walk_at "g94len") (fun cdv A outer st H vs Q E hr h => ?_), F⟩
  · obtain ⟨n, rfl, k⟩ := h
    refine ⟨_, PSs.nox (pss_cons (ps_set (i := 1) sc_l_sign_by.nd rfl (Or.inl rfl) pe_str)
        (pss_cons (ps_set (i := 1) sc_l_sign_by.nd rfl (Or.inl rfl) (pe_op op_add_str (pv 1) pe_str))
        (pss_one (ps_ret (pe_ix ix_str (pe_op op_add_str (pv 1) pe_str) (pe_op op_mod (pv 0) pe_int) (fun _ _ => rfl)))))), ?_⟩
    walk_at "rds"
    exact ix_some (N := 129) (by decide +kernel) (by decide) (by omega) (by omega) k
def spLText : Sp := fun vs H Q _ => ∃ n : Nat, vs = [.int n] ∧ n ≤ 1000000000 ∧ ∀ l : List Nat, l.length ≤ 40 → Q (.str (SX.S l)) H
theorem ok_l_text (T : Txt K mg) : ∃ fd, FnOk P w K mg base CX0 1 (He.fAd K ("_law_text", none)) fd ["_law_ticks_here"] spLText ∧ FunD K "_law_text" "_law_text" (defArgs s_l_text) (defBody s_l_text) (defScope s_l_text) [] [] (He.fAd K ("_law_text", none)) fd := by
  obtain ⟨fd, F⟩ := T.c.def_ 8 (d := d_l_text) rfl
  refine ⟨fd, F.ok sc_l_text (by walk_at "g94len") (fun cdv A outer st H vs Q E hr h => ?_), F⟩
  · obtain ⟨n, rfl, hn, k⟩ := h
    refine ⟨_, PSs.nox (pss_cons (ps_set (i := 1) sc_l_text.nd rfl (Or.inl rfl) (pe_callTy call_str_int (by rfl) (free_str T) (by decide +kernel) (pa_cons (pe_op op_fdiv (pv 0) pe_int) pa_nil)))
        (pss_cons (ps_if (pt_cmpR op_eq (pe_op op_mod (pv 0) pe_int) pe_int (nomark _)) (pss_one (ps_ret (pv 1))) pss_nil)
        (pss_cons (ps_set (i := 1) sc_l_text.nd rfl (Or.inl rfl) (pe_op op_add_str (pe_op op_add_str (pv 1) pe_str) (pe_slice C8.sl_txt (pe_callTy call_str_int (by rfl) (free_str T) (by decide +kernel) (pa_cons (pe_op op_add pe_int (pe_op op_mod (pv 0) pe_int)) pa_nil)) (po_some pe_int) po_none)))
        (pss_cons (ps_while PassesOwn.never (PT.up (pt_cmpR op_eq (pe_ix ix_str (pv 1) pe_negC (fun _ _ => rfl)) pe_str (nomark _))) (pss_one (ps_set (i := 1) sc_l_text.nd rfl (Or.inl rfl) (pe_slice C8.sl_txt (pv 1) po_none (po_some pe_negC)))))
        (pss_one (ps_ret (pv 1))))))), ?_⟩
    have hq := TL.numL_len (n := n / 1000) (k := 8) (by decide) (by show n / 1000 < 100000000; omega)
    have hq2 := TL.numL_len (n := 1000 + n % 1000) (k := 4) (by decide) (by show 1000 + n % 1000 < 10000; omega)
    have e1 : Str.ofString (toString ((n : Int) / 1000)) = SX.S (TL.numL (n / 1000)) := by
      rw [show (n : Int) / 1000 = ((n / 1000 : Nat) : Int) by omega]
      exact str_num _
    have e2 : Str.ofString (toString (1000 + (n : Int) % 1000)) = SX.S (TL.numL (1000 + n % 1000)) := by
      rw [show 1000 + (n : Int) % 1000 = ((1000 + n % 1000 : Nat) : Int) by omega]
      exact str_num _
    have g1 : ((n : Int) / 1000).natAbs.log2 < 1920 := by
      rw [show (n : Int) / 1000 = ((n / 1000 : Nat) : Int) by omega]
      exact lg (by omega)
    have g2 : (1000 + (n : Int) % 1000).natAbs.log2 < 1920 := by
      rw [show 1000 + (n : Int) % 1000 = ((1000 + n % 1000 : Nat) : Int) by omega]
      exact lg (by omega)
    walk_at "rds"
    rw [e1]
    walk_at "ri" <;> intro c1
    · walk_at "rds"
      exact k _ (by omega)
    walk_at "rds"
    have hd : (Str.ofString "." : Str) = SX.S [46] := by decide +kernel
    refine ⟨?_, ?_⟩
    · rw [len_S]
      exact small_size (show (TL.numL (n / 1000)).length + 1 ≤ 100000 by omega)
    rw [hd, SX.S_cat]
    walk_at "rds"
    rw [e2]
    walk_at "rds"
    refine ⟨by rw [len_S]; exact small_size (by omega), ?_⟩
    rw [SX.slice_from (by decide)]
    have hz0 : ((TL.numL (1000 + n % 1000)).drop (Int.toNat 1)).length ≤ 4 := by
      rw [List.length_drop]
      omega
    generalize (TL.numL (1000 + n % 1000)).drop (Int.toNat 1) = z0 at hz0 ⊢
    refine ⟨_, _, rfl, rfl, ?_, ?_⟩
    · rw [len_S, len_S, List.length_append]
      exact small_size (show (TL.numL (n / 1000)).length + 1 + z0.length ≤ 100000 by omega)
    rw [SX.S_cat]
    refine whileN (fun m σ' H' => ∃ z : List Nat, σ' = [some (.int n), some (.str (SX.S (TL.numL (n / 1000) ++ [46] ++ z)))] ∧ H' = H ∧ z.length = m ∧ z.length ≤ 4) _ ⟨_, rfl, rfl, rfl, hz0⟩ ?_
    rintro m σ' H' ⟨z, rfl, rfl, rfl, hz⟩
    have hlen : (TL.numL (n / 1000) ++ [46] ++ z).length ≤ 40 := by
      rw [List.length_append, List.length_append]
      show (TL.numL (n / 1000)).length + 1 + z.length ≤ 40
      omega
    have hsz : (SX.S (TL.numL (n / 1000) ++ [46] ++ z)).length ≤ sizeLine := by
      rw [len_S]
      exact small_size (by omega)
    rcases List.eq_nil_or_concat z with rfl | ⟨r, c, e⟩
    · refine ⟨_, rfl, _, -1, 46, rfl, rfl, hsz, atI_last (by rw [List.append_nil, List.getLast?_append]; rfl), rfl, _, rfl, ?_⟩
      rw [show decide ((V.str (SX.S [46])) = V.str (Str.ofString "0")) = false by decide +kernel]
      refine iteF ?_
      walk_at "rds"
      exact k _ hlen
    rw [List.concat_eq_append] at e
    subst e
    refine ⟨_, rfl, _, -1, c, rfl, rfl, hsz, atI_last (by rw [← List.append_assoc, List.getLast?_append]; rfl), rfl, _, rfl, ?_⟩
    have e2 : Txt.slice (SX.S (TL.numL (n / 1000) ++ [46] ++ (r ++ [c]))) none (some (-1)) = SX.S (TL.numL (n / 1000) ++ [46] ++ r) := by
      rw [← List.append_assoc]
      exact SX.butlast_snoc _ _
    refine iteS (a := [c]) (b := [48]) (by decide +kernel) (fun _ => ?_) (fun _ => ?_)
    · rw [List.length_append] at hz ⊢
      refine ⟨_, rfl, _, rfl, SX.S _, rfl, hsz, ?_⟩
      rw [e2]
      exact ⟨_, Nat.lt_succ_self _, r, rfl, rfl, rfl, by omega⟩
    · walk_at "rds"
      exact k _ hlen
def spLine : Sp := fun vs H Q _ => ∃ n : Int, vs = [.int n] ∧ ∀ l : List Nat, l.length ≤ 50 → Q (.str (SX.S l)) H
theorem ok_l_line (T : Txt K mg) : ∃ fd, FnOk P w K mg base CX0 2 (He.fAd K ("_law_line", none)) fd ["_law_cell"] spLine ∧ FunD K "_law_line" "_law_line" (defArgs s_l_line) (defBody s_l_line) (defScope s_l_line) [] [] (He.fAd K ("_law_line", none)) fd := by
  obtain ⟨fd, F⟩ := T.c.def_ 9 (d := d_l_line) rfl
  obtain ⟨fd_l_text, G_l_text, F_l_text⟩ := ok_l_text (P := P) (w := w) (base := base) T
  have kp_l_text := F_l_text.kp
  have b_l_text : Binds K fd_l_text ["_law_ticks_here"] [] := FunD.bindsN F_l_text (fun _ _ _ _ _ _ us hl => match us, hl with | [_], _ => rfl)
  obtain ⟨fd_l_sign_by, G_l_sign_by, F_l_sign_by⟩ := ok_l_sign_by (P := P) (w := w) (base := base) T
  have kp_l_sign_by := F_l_sign_by.kp
  have b_l_sign_by : Binds K fd_l_sign_by ["_law_cell"] [] := FunD.bindsN F_l_sign_by (fun _ _ _ _ _ _ us hl => match us, hl with | [_], _ => rfl)
  refine ⟨fd, F.ok sc_l_line (by walk_at "g94len") (fun cdv A outer st H vs Q E hr h => ?_), F⟩
  · obtain ⟨n, rfl, k⟩ := h
    refine ⟨_, PSs.nox (pss_cons (ps_set (i := 1) sc_l_line.nd rfl (Or.inl rfl) (pe_op op_fdiv (pv 0) pe_int))
        (pss_cons (ps_set (i := 2) sc_l_line.nd rfl (Or.inl rfl) (pe_op op_mod (pv 1) (pe_op op_add (pe_powC (v := 1000000000) (by rfl) (by decide +kernel)) pe_int)))
        (C8.pss_cut (ps_if (pt_cmpR op_eq (pe_op op_mod (pv 1) pe_int) pe_int (nomark _)) (pss_one (ps_set (i := 2) sc_l_line.nd rfl (Or.inl rfl) (pe_op op_mod (pe_op op_fdiv (pv 1) pe_int) pe_int))) pss_nil)
        (pss_cons (ps_set (i := 3) sc_l_line.nd rfl (Or.inl rfl) (pe_call G_l_text (hr.mono (by decide)) rfl (glo__law_text T) kp_l_text b_l_text .nil pass0 (pa_cons (pv 2) pa_nil)))
        (pss_cons (ps_set (i := 4) sc_l_line.nd rfl (Or.inl rfl) (pe_op op_mod (pe_op op_mod (pe_op op_mul (pv 0) pe_int) pe_int) (pe_op op_add (pe_callB call_len_str (by rfl) (free_len T) (by decide +kernel) (pa_cons (pv 3) pa_nil)) pe_int)))
        (pss_cons (ps_set (i := 5) sc_l_line.nd rfl (Or.inl rfl) (pe_call G_l_sign_by (hr.mono (by decide)) rfl (glo__law_sign_by T) kp_l_sign_by b_l_sign_by .nil pass0 (pa_cons (pe_op op_mod (pe_op op_mul (pv 0) pe_int) pe_int) pa_nil)))
        (pss_cons (ps_if (pt_cmpR op_eq (pe_op op_mod (pv 0) pe_int) pe_int (nomark _)) (pss_one (ps_ret (pe_op op_add_str (pe_op op_add_str (pe_slice C8.sl_txt (pv 3) po_none (po_some (pv 4))) (pv 5)) (pe_slice C8.sl_txt (pv 3) (po_some (pv 4)) po_none)))) pss_nil)
        (pss_cons (ps_if (pt_cmpR op_eq (pe_op op_mod (pv 0) pe_int) pe_int (nomark _)) (pss_one (ps_ret (pe_op op_add_str (pe_op op_add_str (pe_slice C8.sl_txt (pv 3) po_none (po_some (pv 4))) (pv 5)) (pe_slice C8.sl_txt (pv 3) (po_some (pe_op op_add (pv 4) pe_int)) po_none)))) pss_nil)
        (pss_cons (ps_if (pt_cmpR op_eq (pe_op op_mod (pv 0) pe_int) pe_int (nomark _)) (pss_one (ps_ret (pe_op op_add_str (pe_slice C8.sl_txt (pv 3) po_none (po_some (pv 4))) (pe_slice C8.sl_txt (pv 3) (po_some (pe_op op_add (pv 4) pe_int)) po_none)))) pss_nil)
        (pss_one (ps_ret (pv 3)))))))))))), ?_⟩
    walk_at "rds"
    refine ⟨fun σ' H' => ∃ t : Nat, σ' = [some (.int n), some (.int (n / 5)), some (.int t), none, none, none] ∧ H' = H ∧ t ≤ 1000000000, ?_, ?_⟩
    · walk_at "rds"
      walk_at "ri" <;> intro c1
      · obtain ⟨t, ht⟩ : ∃ t : Nat, n / 5 / 2 % 3001 = t := ⟨(n / 5 / 2 % 3001).toNat, by omega⟩
        walk_at "rds"
        refine ⟨t, ?_, rfl, by omega⟩
        rw [← ht]
        rfl
      · obtain ⟨t, ht⟩ : ∃ t : Nat, n / 5 % 1000000001 = t := ⟨(n / 5 % 1000000001).toNat, by omega⟩
        refine ⟨t, ?_, rfl, by omega⟩
        rw [← ht]
        rfl
    rintro σ' H' ⟨t, rfl, rfl, ht⟩
    walk_at "rds"
    intro l hl
    have hsz : (SX.S l).length ≤ sizeLine := by
      rw [len_S]
      exact small_size (by omega)
    walk_at "rds"
    intro c
    walk_at "nf"
    have hb : 0 ≤ n * 48271 % 2147483647 % (((SX.S l).length : Int) + 1) := Int.emod_nonneg _ (by omega)
    generalize n * 48271 % 2147483647 % (((SX.S l).length : Int) + 1) = m at hb ⊢
    have e1 := SX.slice_to (a := l) hb
    have e2 := SX.slice_from (a := l) hb
    have e3 := SX.slice_from (a := l) (show 0 ≤ m + 1 by omega)
    have l1 : (l.take m.toNat).length ≤ 40 := by
      rw [List.length_take]
      omega
    have l2 : (l.drop m.toNat).length ≤ 40 := by
      rw [List.length_drop]
      omega
    have l3 : (l.drop (m + 1).toNat).length ≤ 40 := by
      rw [List.length_drop]
      omega
    walk_at "rds"
    walk_at "ri" <;> intro c1
    · walk_at "rds"
      rw [e1]
      refine ⟨by rw [len_S, len_S]; exact small_size (show (l.take m.toNat).length + 1 ≤ 100000 by omega), ?_⟩
      rw [SX.S_cat]
      walk_at "rds"
      rw [e2]
      refine ⟨by rw [len_S, len_S, List.length_append]; exact small_size (show (l.take m.toNat).length + 1 + (l.drop m.toNat).length ≤ 100000 by omega), ?_⟩
      rw [SX.S_cat]
      refine k _ ?_
      rw [List.length_append, List.length_append, List.length_take, List.length_drop]
      show min m.toNat l.length + 1 + _ ≤ 50
      omega
    walk_at "rds"
    walk_at "ri" <;> intro c2
    · walk_at "rds"
      rw [e1]
      refine ⟨by rw [len_S, len_S]; exact small_size (show (l.take m.toNat).length + 1 ≤ 100000 by omega), ?_⟩
      rw [SX.S_cat]
      walk_at "rds"
      rw [e3]
      refine ⟨by rw [len_S, len_S, List.length_append]; exact small_size (show (l.take m.toNat).length + 1 + (l.drop (m + 1).toNat).length ≤ 100000 by omega), ?_⟩
      rw [SX.S_cat]
      refine k _ ?_
      rw [List.length_append, List.length_append, List.length_take, List.length_drop]
      show min m.toNat l.length + 1 + _ ≤ 50
      omega
    walk_at "rds"
    walk_at "ri" <;> intro c3
    · walk_at "rds"
      rw [e1, e3]
      refine ⟨by rw [len_S, len_S]; exact small_size (show (l.take m.toNat).length + (l.drop (m + 1).toNat).length ≤ 100000 by omega), ?_⟩
      rw [SX.S_cat]
      refine k _ ?_
      rw [List.length_append, List.length_take, List.length_drop]
      omega
    walk_at "rds"
    exact k _ (by omega)
def odds : List Str := ["", ".", "0.", ".5", "00", "01", "0.0", "1.50", "1.2345", "1,5", "+1", "-1", "-0", " 1", "1 ", "1.5.1", "1000000.001", "1000001", "99999999999999999999", "1e3", "1_0"]
theorem txt_at {zs : List Str} (h : zs.all (fun z => decide (z.length ≤ 50)) = true) {j : Nat} (hj : j < zs.length) : ∃ l : List Nat, l.length ≤ 50 ∧ atI (zs.map V.str) (j : Int) = some (.str (SX.S l)) := by
  have h2 := of_decide_eq_true (List.all_eq_true.mp h _ (List.getElem_mem hj))
  refine ⟨zs[j].cps.toList, by rw [← len_S, SX.S_tl]; exact h2, atI_nat ?_⟩
  rw [List.getElem?_map, List.getElem?_eq_getElem hj, SX.S_tl]
  rfl
def spOdd : Sp := fun vs H Q _ => ∃ n : Int, vs = [.int n] ∧ ∀ l : List Nat, l.length ≤ 50 → ∀ H', Same H H' → Q (.str (SX.S l)) H'
theorem ok_l_odd (T : Txt K mg) : ∃ fd, FnOk P w K mg base CX0 1 (He.fAd K ("_law_odd", none)) fd ["_law_cell"] spOdd ∧ FunD K "_law_odd" "_law_odd" (defArgs s_l_odd) (defBody s_l_odd) (defScope s_l_odd) [] [] (He.fAd K ("_law_odd", none)) fd := by
  obtain ⟨fd, F⟩ := T.c.def_ 10 (d := d_l_odd) rfl
  refine ⟨fd, F.ok sc_l_odd (by walk_at "g94len") (fun cdv A outer st H vs Q E hr h => ?_), F⟩
  · obtain ⟨n, rfl, k⟩ := h
    refine ⟨_, PSs.nox (pss_cons (ps_set (i := 1) sc_l_odd.nd rfl (Or.inl rfl) (pe_lstK (pa_cons pe_str (pa_cons pe_str (pa_cons pe_str (pa_cons pe_str (pa_cons pe_str (pa_cons pe_str (pa_cons pe_str (pa_cons pe_str (pa_cons pe_str (pa_cons pe_str (pa_cons pe_str (pa_cons pe_str (pa_cons pe_str (pa_cons pe_str (pa_cons pe_str (pa_cons pe_str pa_nil))))))))))))))))))
        (pss_cons (ps_set (i := 1) sc_l_odd.nd rfl (Or.inl rfl) (pe_op op_catK (pv 1) (pe_lstK (pa_cons pe_str (pa_cons pe_str (pa_cons pe_str (pa_cons pe_str (pa_cons pe_str pa_nil))))))))
        (pss_one (ps_ret (pe_ix ix_list (pv 1) (pe_op op_mod (pv 0) pe_int) (fun _ _ => rfl)))))), ?_⟩
    walk_at "wks"
    rename_i p H1 f1 s1 h1
    obtain ⟨j, hj⟩ : ∃ j : Nat, n % 21 = j := ⟨(n % 21).toNat, by omega⟩
    obtain ⟨l, hl, e⟩ := txt_at (zs := odds) (by decide +kernel) (j := j) (by show j < 21; omega)
    refine ⟨p, _, _, _, rfl, rfl, .of h1, ?_, k l hl _ (by walk_at "sm")⟩
    show atI _ (n % 21) = _
    rw [hj]
    exact e
theorem dp_bls {K : PySem.W.Frag} {H : Hp} : ∀ bs : List Bool, DpAll K H (bs.map V.bl) (bs.map PyData.bool)
  | [] => .nil
  | b :: r => .cons (.bl b) (dp_bls r)

/-! a def that lets nothing out, called while an exception is handled -/
structure RoomQ (k : Nat) (A : Around) : Prop where
  dp : A.depth + 3 * k + 5 < recursionLimit
structure FnQ (P : Program) (w : World) (K : PySem.W.Frag) (mg : Str → Option Value) (base : Heap) (k : Nat) (f : Addr) (fd : FuncData) (ps : List Str) (sp : Sp) : Prop where
  len : ∀ vs H Q E, sp vs H Q E → vs.length = ps.length
  run : ∀ (A : Around) (outer : List Env) (s : Shared) (H : Hp) (args : Args) (us : List Value) (vs : List V) (Q : VK) (E : XK), RoomQ k A → Env0 P w K mg base A outer s H → BindsTo s fd args (ps.zip us) → Vals vs us → sp vs H Q E →
    codeAny (model P w) A (.call (.ref f) args) (CR CX0 outer P w H s Q E) s
abbrev cxQ (P : Program) (w : World) (K : PySem.W.Frag) (mg : Str → Option Value) (base : Heap) (N : List Str) (qual : Str) (scope : Scope) (f : Addr) (cd : Value) (A : Around) (outer : List Env) (s : Shared) (H : Hp) (E : XK) : Cx :=
  { cxOf CX0 P w K mg base N qual scope f cd A outer s H E with calm := false }
theorem inv_startQ {N ps : List Str} {qual : Str} {scope : Scope} {f : Addr} {cd : Value} {A : Around} {outer : List Env} {s s1 : Shared} {H : Hp} {E : XK} {us : List Value} {vs : List V}
    (S : FnScope N ps scope) (e0 : Env0 P w K mg base A outer s H) (hl : vs.length = ps.length) (r : Vals vs us)
    (x : InCallC s s.heap.objs.size (bindL (envOfC qual scope s.heap.objs.size f cd).kindOf (ps.zip us) fun _ => none) (cellsFrom (s.heap.objs.size + 1) scope.names []) (bindC (envOfC qual scope s.heap.objs.size f cd).kindOf (ps.zip us) fun _ => none) s1) :
    Inv (cxQ P w K mg base N qual scope f cd A outer s H E) [] (start N vs) H s1 := by
  have I0 : Inv (cxOf CX0 P w K mg base N qual scope f cd { A with handled := none } outer s H E) [] (start N vs) H s1 :=
    inv_start S rfl ⟨e0.frames, e0.mod, e0.bs, e0.bsz, e0.funs, e0.frf, e0.hok, e0.bare⟩ hl r x
  have k0 := I0.ok
  exact ⟨⟨k0.mod, k0.kind, k0.glob, k0.blt, k0.above, k0.inj, k0.has, k0.cab, fun z => Bool.noConfusion (show false = true from z), Around.frames_deeper e0.frames, k0.stk, k0.exf, k0.bs, k0.bsz, k0.noex, k0.exfs, k0.funs, k0.frf⟩,
    I0.os, I0.bare, I0.base, I0.loc, I0.cell, I0.free, I0.freeC, I0.pin, I0.hok, I0.len⟩
theorem FunD.okQ {x qual : Str} {params : Arguments} {body : List Stmt} {scope : Scope} {dvs : List V} {kws : List (Str × V)} {f : Addr} {fd : FuncData} {N ps : List Str} {k : Nat} {sp : Sp} (F : FunD K x qual params body scope dvs kws f fd) (S : FnScope N ps scope) (len : ∀ vs H Q E, sp vs H Q E → vs.length = ps.length)
    (hbody : ∀ (cdv : Value) (A : Around) (outer : List Env) (s : Shared) (H : Hp) (vs : List V) (Q : VK) (E : XK), sp vs H Q E →
      ∃ t, PSs (cxQ P w K mg base N qual scope f cdv A outer s H E) body t ∧ t { nx := fun _ H' => Q .non H', rt := Q } (start N vs) H) : FnQ P w K mg base (k + 1) f fd ps sp := by
  obtain ⟨oc, od, dV, kV, doc, pm, an, cdv, ct, osl, rfl, lk, hcd, _, _⟩ := F.ex
  refine ⟨len, fun A outer s H args us vs Q E hr e0 hb r hsp => ?_⟩
  have hl := len _ _ _ _ hsp
  have lim : s.heap.NoLimit := e0.mod.nolimit.keeps fun b o e => (e0.bs b o e).1
  have KX : K.In s.heap := e0.mod.kin.keeps fun b o e => (e0.bs b o e).1
  refine codeAny_call_function (by have := hr.dp; omega) (KX _ _ lk) rfl S.co S.gen rfl (PySem.W.codeRec_of KX hcd) (hb _ _ _ _ ?_)
  refine wpAny_newFunctionEnv_cells S.kind (fun y hy => ?_) fun env he s1 x => ?_
  · rcases S.par y.1 (List.of_mem_zip (show (y.1, y.2) ∈ ps.zip us from hy)).1 with q | q
    · exact .inl q
    · exact .inr ⟨q, PySem.W.cellsFrom_some _ _ _ (.inl q)⟩
  subst he
  refine ⟨lim.keeps x.toInCall.keep, codeAny_func ?_⟩
  obtain ⟨t, ht, hq⟩ := hbody cdv A outer s H vs Q E hsp
  refine wpAny_mono (ht.run [] s1 (start N vs) H _ (inv_startQ S e0 hl r x) hq) (fun fl s' hs => ?_) fun e s' hs => hs
  match fl, hs with
  | .ret u, ⟨v, _, H', J, rv, q⟩ => exact ⟨v, H', J.os, J.bare, J.base, J.hok, rv, q⟩
  | .next, ⟨_, H', J, q⟩ => exact ⟨.non, H', J.os, J.bare, J.base, J.hok, rfl, q⟩
  | .brk, ⟨_, _, _, q⟩ => exact False.elim q
  | .cont, ⟨_, _, _, q⟩ => exact False.elim q
theorem pe_callQ {X : Cx} {k : Nat} {f : Addr} {fd : FuncData} {ps : List Str} {sp : Sp} {x : Str} {q pos : Pos} {e : Expr} {es : List Expr} {t : TA} (F : FnQ X.prog X.w X.K X.mg X.base k f fd ps sp) (hr : RoomQ k X.A) (hg : Gl X x) (hm : X.mg x = some (.ref f)) (hk : PySem.W.keepIn X.K (.ref f) = true) (hb : Binds X.K fd ps [])
    (ha : PA X (e :: es) t) (hdb : (x == ("__debug__" : Str)) = false := by decide) (he : starEach (e :: es) X.env = (false, eval e X.env) :: starEach es X.env := by rfl) (hpl : (backTo pos (starEach es X.env)).any (·.1) = false := by rfl) :
    PE X (.Call (.Name x q) (e :: es) [] pos) (tCallS sp (fun _ => E0) t) := by
  refine ⟨fun pins s σ H Q I h => wpAny_Call_Name_kw (ld_glob I hg hm ?_ hdb)⟩
  refine PySem.W.callWith_K (h₀ := X.base) I.ok.mod.kin hk (thn (ha.run pos pins s σ H _ I h) fun us s1 ⟨vs, H1, J, r, q⟩ => ⟨J.kIn, ?_⟩) he hpl
  have hl : us.length = ps.length := by
    rw [← r.length]
    exact F.len _ _ _ _ q
  have b := hb s1 us J.kIn (by rw [List.append_nil]; exact hl)
  rw [List.append_nil] at b
  refine wpAny_call (codeAny_mono (F.run X.A X.stack s1 H1 ⟨us, []⟩ us vs Q E0 hr J.env0 b r q) fun r s' hq => ?_)
  match r, hq with
  | .error e, hq => exact (hq : False).elim
  | .ok (.ret u), hq => exact J.after hq
  | .ok .next, hq => exact hq.elim
  | .ok .brk, hq => exact hq.elim
  | .ok .cont, hq => exact hq.elim
theorem roomQ_mark {k : Nat} {A : Around} {h : Option Value} (r : Room k A) : RoomQ k (A.mark h) := ⟨r.dp⟩

theorem okQ_l_whole (T : Txt K mg) : ∃ fd, FnQ P w K mg base 1 (He.fAd K ("_law_whole", none)) fd ["_law_found"] spWhole ∧ FunD K "_law_whole" "_law_whole" (defArgs s_l_whole) (defBody s_l_whole) (defScope s_l_whole) [] [] (He.fAd K ("_law_whole", none)) fd := by
  obtain ⟨fd, F⟩ := T.c.def_ 6 (d := d_l_whole) rfl
  refine ⟨fd, FunD.okQ F sc_l_whole (by walk_at "g94len") (fun cdv A outer st H vs Q E h => ?_), F⟩
  · obtain ⟨n, rfl, k⟩ := h
    refine ⟨_, PSs.nox (pss_one (ps_ret (pe_and (pe_callB call_isi (by rfl) (free_isinstance T) (by decide +kernel) (pa_cons (pv 0) (pa_cons (pe_bltn (v := .ty "int") (by rfl) (free_int T) (by decide +kernel) rfl) pa_nil))) (pe_one (pe_not (pe_callB call_isi (by rfl) (free_isinstance T) (by decide +kernel) (pa_cons (pv 0) (pa_cons (pe_bltn (v := .ty "bool") (by rfl) (free_bool T) (by decide +kernel) rfl) pa_nil)))))))), ?_⟩
    walk_at "rds"
    exact k
/-- in a suite: the built-in method's reading told without the suite -/
theorem pe_tBMK {X : Cx} {K0 : PySem.W.Frag} {e : Expr} {T : String} {r : V → List V → Hp → VK → Prop} {to : TE} {t : TA} (hK : X.K = K0) (h : PE X e (tBM X.K T r to t)) : PE X e (tBM K0 T r to t) := hK ▸ h
def Odd (K : PySem.W.Frag) (H : Hp) (v : V) : Prop := (∀ H', Same H H' → IsA K H' v "str" false) ∨ ∃ l : List Nat, v = .str (SX.S l) ∧ l.length ≤ 900 ∧ ∀ n : Nat, n ≤ 1000000000 → l ≠ written n
def spRefused (K : PySem.W.Frag) : Sp := fun vs H Q _ => ∃ v : V, vs = [v] ∧ Odd K H v ∧ ∀ H', Same H H' → Q (.bl true) H'
theorem ok_l_refused (T : Txt K mg) : ∃ fd, FnOk P w K mg base CX0 4 (He.fAd K ("_law_refused", none)) fd ["_law_thing"] (spRefused K) ∧ FunD K "_law_refused" "_law_refused" (defArgs s_l_refused) (defBody s_l_refused) (defScope s_l_refused) [] [] (He.fAd K ("_law_refused", none)) fd := by
  obtain ⟨fd, F⟩ := T.c.def_ 13 (d := d_l_refused) rfl
  obtain ⟨fd_time_of, G_time_of, F_time_of⟩ := ok_time_of (P := P) (w := w) (base := base) T
  have kp_time_of := F_time_of.kp
  have b_time_of : Binds K fd_time_of ["text"] [] := FunD.bindsN F_time_of (fun _ _ _ _ _ _ us hl => match us, hl with | [_], _ => rfl)
  obtain ⟨fd_l_whole, G_l_whole, F_l_whole⟩ := ok_l_whole (P := P) (w := w) (base := base) T
  have kp_l_whole := F_l_whole.kp
  have b_l_whole : Binds K fd_l_whole ["_law_found"] [] := FunD.bindsN F_l_whole (fun _ _ _ _ _ _ us hl => match us, hl with | [_], _ => rfl)
  refine ⟨fd, F.ok sc_l_refused (by walk_at "g94len") (fun cdv A outer st H vs Q E hr h => ?_), F⟩
  · obtain ⟨v, rfl, hv, k⟩ := h
    obtain ⟨fdQ_l_whole, GQ_l_whole, FQ_l_whole⟩ := okQ_l_whole (P := P) (w := w) (base := base) T
    have bQ_l_whole : Binds K fdQ_l_whole ["_law_found"] [] := FunD.bindsN FQ_l_whole (fun _ _ _ _ _ _ us hl => match us, hl with | [_], _ => rfl)
    refine ⟨_, PSs.nox (pss_cons (ps_set (i := 1) sc_l_refused.nd rfl (Or.inl rfl) (pe_lstK pa_nil))
        (pss_cons (ps_try_as (i := 2) rfl rfl sc_l_refused.nd rfl rfl ⟨rfl, by decide, .inl (glo_LampError T)⟩ takes0 (fun W pn xe tk _ => (pss_one (ps_expr (pe_callS G_time_of (hr.mono (by decide)) rfl (glo_time_of T) kp_time_of b_time_of (fun σ => passAt tk σ) (pa_cons (pv 0) pa_nil))))) (fun a oe cls d pn hz hf => (pss_cons (ps_set (i := 1) sc_l_refused.nd rfl (Or.inl rfl) (pe_lstK (pa_cons (pe_callB (call_isD hz hf) (by rfl) (free_isinstance T) (by decide +kernel) (pa_cons (pv 2) (pa_cons (pe_bltn (v := .ty "ValueError") (by rfl) (free_ValueError T) (by decide +kernel) rfl) pa_nil))) (pa_cons (pe_callB (call_isD hz hf) (by rfl) (free_isinstance T) (by decide +kernel) (pa_cons (pv 2) (pa_cons (pe_glob (v := .ref (He.ga K "NoText")) rfl (glo_NoText T) rfl) pa_nil))) (pa_cons (pe_callB (call_isD hz hf) (by rfl) (free_isinstance T) (by decide +kernel) (pa_cons (pv 2) (pa_cons (pe_glob (v := .ref (He.ga K "NoTime")) rfl (glo_NoTime T) rfl) pa_nil))) (pa_cons (pe_callB (call_isD hz hf) (by rfl) (free_isinstance T) (by decide +kernel) (pa_cons (pv 2) (pa_cons (pe_glob (v := .ref (He.ga K "NoWorth")) rfl (glo_NoWorth T) rfl) pa_nil))) pa_nil))))))
        (pss_cons (ps_set (i := 1) sc_l_refused.nd rfl (Or.inl rfl) (pe_op op_catK (pv 1) (pe_lstK (pa_cons (pe_callB (call_isD hz hf) (by rfl) (free_isinstance T) (by decide +kernel) (pa_cons (pv 2) (pa_cons (pe_glob (v := .ref (He.ga K "NoCue")) rfl (glo_NoCue T) rfl) pa_nil))) (pa_cons (pe_callB (call_isD hz hf) (by rfl) (free_isinstance T) (by decide +kernel) (pa_cons (pv 2) (pa_cons (pe_glob (v := .ref (He.ga K "NoSlot")) rfl (glo_NoSlot T) rfl) pa_nil))) pa_nil)))))
        (pss_one (ps_if (pt_val (pe_callB (call_isD hz hf) (by rfl) (free_isinstance T) (by decide +kernel) (pa_cons (pv 2) (pa_cons (pe_glob (v := .ref (He.ga K "NoText")) rfl (glo_NoText T) rfl) pa_nil)))) (pss_one (ps_expr (pe_tBMK (K0 := K) rfl (pe_bm PySem.F.plainAttrs_list PySem.F.slot_list_append PySem.F.type_list_append mt_appendK (pv 1) (pa_cons (pe_and (pe_callQ GQ_l_whole (roomQ_mark (hr.mono (by decide))) rfl (glo__law_whole T) FQ_l_whole.kp bQ_l_whole (pa_cons (pe_xf (xf_NoText T) (xn_NoText_row T) hz hf (pv 2)) pa_nil)) (pe_one (pe_cmpR op_eq (pe_xf (xf_NoText T) (xn_NoText_row T) hz hf (pv 2)) pe_int (nomark _)))) pa_nil))))) pss_nil))))))
        (pss_one (ps_ret (pe_cmpR (op_eqD hr.units) (pv 1) (pe_lstK (pa_cons pe_bl (pa_cons pe_bl (pa_cons pe_bl (pa_cons pe_bl (pa_cons pe_bl (pa_cons pe_bl (pa_cons pe_bl pa_nil)))))))) (nomark _)))))), ?_⟩
    rcases hv with hv | ⟨l, rfl, hl, hn⟩
    · repeat (first | (refine ⟨_, rfl, .inl ⟨hv _ (by assumption), fun d G sG hd => ⟨true, exm_NoText_LampError T, fun _ a ha => ?_, fun q => nomatch q⟩⟩⟩) | walk_at "wk")
      (repeat first | (refine ⟨_, rfl, _, _, _, rfl, rfl, excC_NoText T, (by walk_at "hp"), _, _, _, rfl, (fun _ h => h), is_NoText_ValueError T, ?_⟩) | (refine ⟨_, rfl, _, _, _, rfl, rfl, excC_NoText T, (by walk_at "hp"), _, _, _, rfl, (fun _ h => h), is_NoText_NoText T, ?_⟩) | (refine ⟨_, rfl, _, _, _, rfl, rfl, excC_NoText T, (by walk_at "hp"), _, _, _, rfl, (fun _ h => h), is_NoText_NoTime T, ?_⟩) | (refine ⟨_, rfl, _, _, _, rfl, rfl, excC_NoText T, (by walk_at "hp"), _, _, _, rfl, (fun _ h => h), is_NoText_NoWorth T, ?_⟩) | (refine ⟨_, rfl, _, _, _, rfl, rfl, excC_NoText T, (by walk_at "hp"), _, _, _, rfl, (fun _ h => h), is_NoText_NoCue T, ?_⟩) | (refine ⟨_, rfl, _, _, _, rfl, rfl, excC_NoText T, (by walk_at "hp"), _, _, _, rfl, (fun _ h => h), is_NoText_NoSlot T, ?_⟩) | (refine ⟨_, _, _, rfl, rfl, excC_NoText T, (by walk_at "hp"), _, _, _, rfl, (fun _ h => h), is_NoText_ValueError T, ?_⟩) | (refine ⟨_, _, _, rfl, rfl, excC_NoText T, (by walk_at "hp"), _, _, _, rfl, (fun _ h => h), is_NoText_NoText T, ?_⟩) | (refine ⟨_, _, _, rfl, rfl, excC_NoText T, (by walk_at "hp"), _, _, _, rfl, (fun _ h => h), is_NoText_NoTime T, ?_⟩) | (refine ⟨_, _, _, rfl, rfl, excC_NoText T, (by walk_at "hp"), _, _, _, rfl, (fun _ h => h), is_NoText_NoWorth T, ?_⟩) | (refine ⟨_, _, _, rfl, rfl, excC_NoText T, (by walk_at "hp"), _, _, _, rfl, (fun _ h => h), is_NoText_NoCue T, ?_⟩) | (refine ⟨_, _, _, rfl, rfl, excC_NoText T, (by walk_at "hp"), _, _, _, rfl, (fun _ h => h), is_NoText_NoSlot T, ?_⟩) | (walk_at "rd"))
      intro p1 G1 g1 t1 e1
      (repeat first | (refine ⟨_, rfl, _, _, _, rfl, rfl, excC_NoText T, (by walk_at "hp"), _, _, _, rfl, (fun _ h => h), is_NoText_ValueError T, ?_⟩) | (refine ⟨_, rfl, _, _, _, rfl, rfl, excC_NoText T, (by walk_at "hp"), _, _, _, rfl, (fun _ h => h), is_NoText_NoText T, ?_⟩) | (refine ⟨_, rfl, _, _, _, rfl, rfl, excC_NoText T, (by walk_at "hp"), _, _, _, rfl, (fun _ h => h), is_NoText_NoTime T, ?_⟩) | (refine ⟨_, rfl, _, _, _, rfl, rfl, excC_NoText T, (by walk_at "hp"), _, _, _, rfl, (fun _ h => h), is_NoText_NoWorth T, ?_⟩) | (refine ⟨_, rfl, _, _, _, rfl, rfl, excC_NoText T, (by walk_at "hp"), _, _, _, rfl, (fun _ h => h), is_NoText_NoCue T, ?_⟩) | (refine ⟨_, rfl, _, _, _, rfl, rfl, excC_NoText T, (by walk_at "hp"), _, _, _, rfl, (fun _ h => h), is_NoText_NoSlot T, ?_⟩) | (refine ⟨_, _, _, rfl, rfl, excC_NoText T, (by walk_at "hp"), _, _, _, rfl, (fun _ h => h), is_NoText_ValueError T, ?_⟩) | (refine ⟨_, _, _, rfl, rfl, excC_NoText T, (by walk_at "hp"), _, _, _, rfl, (fun _ h => h), is_NoText_NoText T, ?_⟩) | (refine ⟨_, _, _, rfl, rfl, excC_NoText T, (by walk_at "hp"), _, _, _, rfl, (fun _ h => h), is_NoText_NoTime T, ?_⟩) | (refine ⟨_, _, _, rfl, rfl, excC_NoText T, (by walk_at "hp"), _, _, _, rfl, (fun _ h => h), is_NoText_NoWorth T, ?_⟩) | (refine ⟨_, _, _, rfl, rfl, excC_NoText T, (by walk_at "hp"), _, _, _, rfl, (fun _ h => h), is_NoText_NoCue T, ?_⟩) | (refine ⟨_, _, _, rfl, rfl, excC_NoText T, (by walk_at "hp"), _, _, _, rfl, (fun _ h => h), is_NoText_NoSlot T, ?_⟩) | (walk_at "rd"))
      intro p2 G2 g2 t2 e2
      walk_at "wk"
      walk_at "wk"
      walk_at "wk"
      (repeat first | (refine ⟨_, rfl, _, _, _, rfl, rfl, excC_NoText T, (by walk_at "hp"), _, _, _, rfl, (fun _ h => h), is_NoText_ValueError T, ?_⟩) | (refine ⟨_, rfl, _, _, _, rfl, rfl, excC_NoText T, (by walk_at "hp"), _, _, _, rfl, (fun _ h => h), is_NoText_NoText T, ?_⟩) | (refine ⟨_, rfl, _, _, _, rfl, rfl, excC_NoText T, (by walk_at "hp"), _, _, _, rfl, (fun _ h => h), is_NoText_NoTime T, ?_⟩) | (refine ⟨_, rfl, _, _, _, rfl, rfl, excC_NoText T, (by walk_at "hp"), _, _, _, rfl, (fun _ h => h), is_NoText_NoWorth T, ?_⟩) | (refine ⟨_, rfl, _, _, _, rfl, rfl, excC_NoText T, (by walk_at "hp"), _, _, _, rfl, (fun _ h => h), is_NoText_NoCue T, ?_⟩) | (refine ⟨_, rfl, _, _, _, rfl, rfl, excC_NoText T, (by walk_at "hp"), _, _, _, rfl, (fun _ h => h), is_NoText_NoSlot T, ?_⟩) | (refine ⟨_, _, _, rfl, rfl, excC_NoText T, (by walk_at "hp"), _, _, _, rfl, (fun _ h => h), is_NoText_ValueError T, ?_⟩) | (refine ⟨_, _, _, rfl, rfl, excC_NoText T, (by walk_at "hp"), _, _, _, rfl, (fun _ h => h), is_NoText_NoText T, ?_⟩) | (refine ⟨_, _, _, rfl, rfl, excC_NoText T, (by walk_at "hp"), _, _, _, rfl, (fun _ h => h), is_NoText_NoTime T, ?_⟩) | (refine ⟨_, _, _, rfl, rfl, excC_NoText T, (by walk_at "hp"), _, _, _, rfl, (fun _ h => h), is_NoText_NoWorth T, ?_⟩) | (refine ⟨_, _, _, rfl, rfl, excC_NoText T, (by walk_at "hp"), _, _, _, rfl, (fun _ h => h), is_NoText_NoCue T, ?_⟩) | (refine ⟨_, _, _, rfl, rfl, excC_NoText T, (by walk_at "hp"), _, _, _, rfl, (fun _ h => h), is_NoText_NoSlot T, ?_⟩) | (walk_at "rd"))
      walk_at "wk"
      repeat (first | (refine ⟨_, rfl, rfl, rfl, _, _, _, rfl, (by walk_at "hp"), (by walk_at "lk"), ?_⟩) | (refine ⟨rfl, rfl, _, _, _, rfl, (by walk_at "hp"), (by walk_at "lk"), ?_⟩) | walk_at "wk")
      rename_i HB mB hB pC HC fC sC hC
      rw [show decide (V.int 0 = V.int 0) = true from decide_eq_true rfl] at hB
      refine ⟨.list ([true, true, false, false, false, false, true].map PyData.bool), .list ([true, true, false, false, false, false, true].map PyData.bool), .lst (.of (sC _ _ hB)) (dp_bls [true, true, false, false, false, false, true]), .lst (.of hC) (dp_bls [true, true, false, false, false, false, true]), by decide +kernel, by decide +kernel, ?_⟩
      rw [SeqAt.eqv_refl _ (by decide +kernel)]
      exact k _ (by walk_at "sm")
    · repeat (first | (refine ⟨_, rfl, .inr ⟨l, rfl, by omega, .inr ⟨hn, fun d G sG hd => ⟨true, exm_NoText_LampError T, fun _ a ha => ?_, fun q => nomatch q⟩⟩⟩⟩) | walk_at "wk")
      (repeat first | (refine ⟨_, rfl, _, _, _, rfl, rfl, excC_NoText T, (by walk_at "hp"), _, _, _, rfl, (fun _ h => h), is_NoText_ValueError T, ?_⟩) | (refine ⟨_, rfl, _, _, _, rfl, rfl, excC_NoText T, (by walk_at "hp"), _, _, _, rfl, (fun _ h => h), is_NoText_NoText T, ?_⟩) | (refine ⟨_, rfl, _, _, _, rfl, rfl, excC_NoText T, (by walk_at "hp"), _, _, _, rfl, (fun _ h => h), is_NoText_NoTime T, ?_⟩) | (refine ⟨_, rfl, _, _, _, rfl, rfl, excC_NoText T, (by walk_at "hp"), _, _, _, rfl, (fun _ h => h), is_NoText_NoWorth T, ?_⟩) | (refine ⟨_, rfl, _, _, _, rfl, rfl, excC_NoText T, (by walk_at "hp"), _, _, _, rfl, (fun _ h => h), is_NoText_NoCue T, ?_⟩) | (refine ⟨_, rfl, _, _, _, rfl, rfl, excC_NoText T, (by walk_at "hp"), _, _, _, rfl, (fun _ h => h), is_NoText_NoSlot T, ?_⟩) | (refine ⟨_, _, _, rfl, rfl, excC_NoText T, (by walk_at "hp"), _, _, _, rfl, (fun _ h => h), is_NoText_ValueError T, ?_⟩) | (refine ⟨_, _, _, rfl, rfl, excC_NoText T, (by walk_at "hp"), _, _, _, rfl, (fun _ h => h), is_NoText_NoText T, ?_⟩) | (refine ⟨_, _, _, rfl, rfl, excC_NoText T, (by walk_at "hp"), _, _, _, rfl, (fun _ h => h), is_NoText_NoTime T, ?_⟩) | (refine ⟨_, _, _, rfl, rfl, excC_NoText T, (by walk_at "hp"), _, _, _, rfl, (fun _ h => h), is_NoText_NoWorth T, ?_⟩) | (refine ⟨_, _, _, rfl, rfl, excC_NoText T, (by walk_at "hp"), _, _, _, rfl, (fun _ h => h), is_NoText_NoCue T, ?_⟩) | (refine ⟨_, _, _, rfl, rfl, excC_NoText T, (by walk_at "hp"), _, _, _, rfl, (fun _ h => h), is_NoText_NoSlot T, ?_⟩) | (walk_at "rd"))
      intro p1 G1 g1 t1 e1
      (repeat first | (refine ⟨_, rfl, _, _, _, rfl, rfl, excC_NoText T, (by walk_at "hp"), _, _, _, rfl, (fun _ h => h), is_NoText_ValueError T, ?_⟩) | (refine ⟨_, rfl, _, _, _, rfl, rfl, excC_NoText T, (by walk_at "hp"), _, _, _, rfl, (fun _ h => h), is_NoText_NoText T, ?_⟩) | (refine ⟨_, rfl, _, _, _, rfl, rfl, excC_NoText T, (by walk_at "hp"), _, _, _, rfl, (fun _ h => h), is_NoText_NoTime T, ?_⟩) | (refine ⟨_, rfl, _, _, _, rfl, rfl, excC_NoText T, (by walk_at "hp"), _, _, _, rfl, (fun _ h => h), is_NoText_NoWorth T, ?_⟩) | (refine ⟨_, rfl, _, _, _, rfl, rfl, excC_NoText T, (by walk_at "hp"), _, _, _, rfl, (fun _ h => h), is_NoText_NoCue T, ?_⟩) | (refine ⟨_, rfl, _, _, _, rfl, rfl, excC_NoText T, (by walk_at "hp"), _, _, _, rfl, (fun _ h => h), is_NoText_NoSlot T, ?_⟩) | (refine ⟨_, _, _, rfl, rfl, excC_NoText T, (by walk_at "hp"), _, _, _, rfl, (fun _ h => h), is_NoText_ValueError T, ?_⟩) | (refine ⟨_, _, _, rfl, rfl, excC_NoText T, (by walk_at "hp"), _, _, _, rfl, (fun _ h => h), is_NoText_NoText T, ?_⟩) | (refine ⟨_, _, _, rfl, rfl, excC_NoText T, (by walk_at "hp"), _, _, _, rfl, (fun _ h => h), is_NoText_NoTime T, ?_⟩) | (refine ⟨_, _, _, rfl, rfl, excC_NoText T, (by walk_at "hp"), _, _, _, rfl, (fun _ h => h), is_NoText_NoWorth T, ?_⟩) | (refine ⟨_, _, _, rfl, rfl, excC_NoText T, (by walk_at "hp"), _, _, _, rfl, (fun _ h => h), is_NoText_NoCue T, ?_⟩) | (refine ⟨_, _, _, rfl, rfl, excC_NoText T, (by walk_at "hp"), _, _, _, rfl, (fun _ h => h), is_NoText_NoSlot T, ?_⟩) | (walk_at "rd"))
      intro p2 G2 g2 t2 e2
      walk_at "wk"
      walk_at "wk"
      walk_at "wk"
      (repeat first | (refine ⟨_, rfl, _, _, _, rfl, rfl, excC_NoText T, (by walk_at "hp"), _, _, _, rfl, (fun _ h => h), is_NoText_ValueError T, ?_⟩) | (refine ⟨_, rfl, _, _, _, rfl, rfl, excC_NoText T, (by walk_at "hp"), _, _, _, rfl, (fun _ h => h), is_NoText_NoText T, ?_⟩) | (refine ⟨_, rfl, _, _, _, rfl, rfl, excC_NoText T, (by walk_at "hp"), _, _, _, rfl, (fun _ h => h), is_NoText_NoTime T, ?_⟩) | (refine ⟨_, rfl, _, _, _, rfl, rfl, excC_NoText T, (by walk_at "hp"), _, _, _, rfl, (fun _ h => h), is_NoText_NoWorth T, ?_⟩) | (refine ⟨_, rfl, _, _, _, rfl, rfl, excC_NoText T, (by walk_at "hp"), _, _, _, rfl, (fun _ h => h), is_NoText_NoCue T, ?_⟩) | (refine ⟨_, rfl, _, _, _, rfl, rfl, excC_NoText T, (by walk_at "hp"), _, _, _, rfl, (fun _ h => h), is_NoText_NoSlot T, ?_⟩) | (refine ⟨_, _, _, rfl, rfl, excC_NoText T, (by walk_at "hp"), _, _, _, rfl, (fun _ h => h), is_NoText_ValueError T, ?_⟩) | (refine ⟨_, _, _, rfl, rfl, excC_NoText T, (by walk_at "hp"), _, _, _, rfl, (fun _ h => h), is_NoText_NoText T, ?_⟩) | (refine ⟨_, _, _, rfl, rfl, excC_NoText T, (by walk_at "hp"), _, _, _, rfl, (fun _ h => h), is_NoText_NoTime T, ?_⟩) | (refine ⟨_, _, _, rfl, rfl, excC_NoText T, (by walk_at "hp"), _, _, _, rfl, (fun _ h => h), is_NoText_NoWorth T, ?_⟩) | (refine ⟨_, _, _, rfl, rfl, excC_NoText T, (by walk_at "hp"), _, _, _, rfl, (fun _ h => h), is_NoText_NoCue T, ?_⟩) | (refine ⟨_, _, _, rfl, rfl, excC_NoText T, (by walk_at "hp"), _, _, _, rfl, (fun _ h => h), is_NoText_NoSlot T, ?_⟩) | (walk_at "rd"))
      walk_at "wk"
      repeat (first | (refine ⟨_, rfl, rfl, rfl, _, _, _, rfl, (by walk_at "hp"), (by walk_at "lk"), ?_⟩) | (refine ⟨rfl, rfl, _, _, _, rfl, (by walk_at "hp"), (by walk_at "lk"), ?_⟩) | walk_at "wk")
      rename_i HB mB hB pC HC fC sC hC
      rw [show decide (V.int 0 = V.int 0) = true from decide_eq_true rfl] at hB
      refine ⟨.list ([true, true, false, false, false, false, true].map PyData.bool), .list ([true, true, false, false, false, false, true].map PyData.bool), .lst (.of (sC _ _ hB)) (dp_bls [true, true, false, false, false, false, true]), .lst (.of hC) (dp_bls [true, true, false, false, false, false, true]), by decide +kernel, by decide +kernel, ?_⟩
      rw [SeqAt.eqv_refl _ (by decide +kernel)]
      exact k _ (by walk_at "sm")
def spRead (K : PySem.W.Frag) : Sp := fun vs H Q _ => ∃ l : List Nat, vs = [.str (SX.S l)] ∧ l.length ≤ 900 ∧ ∀ H', Same H H' → Q (.bl true) H'
theorem ok_l_read (T : Txt K mg) : ∃ fd, FnOk P w K mg base CX0 5 (He.fAd K ("_law_read", none)) fd ["_law_line_here"] (spRead K) ∧ FunD K "_law_read" "_law_read" (defArgs s_l_read) (defBody s_l_read) (defScope s_l_read) [] [] (He.fAd K ("_law_read", none)) fd := by
  obtain ⟨fd, F⟩ := T.c.def_ 14 (d := d_l_read) rfl
  obtain ⟨fd_l_ticks, G_l_ticks, F_l_ticks⟩ := ok_l_ticks (P := P) (w := w) (base := base) T
  have kp_l_ticks := F_l_ticks.kp
  have b_l_ticks : Binds K fd_l_ticks ["_law_text_here"] [] := FunD.bindsN F_l_ticks (fun _ _ _ _ _ _ us hl => match us, hl with | [_], _ => rfl)
  obtain ⟨fd_time_of, G_time_of, F_time_of⟩ := ok_time_of (P := P) (w := w) (base := base) T
  have kp_time_of := F_time_of.kp
  have b_time_of : Binds K fd_time_of ["text"] [] := FunD.bindsN F_time_of (fun _ _ _ _ _ _ us hl => match us, hl with | [_], _ => rfl)
  obtain ⟨fd_l_refused, G_l_refused, F_l_refused⟩ := ok_l_refused (P := P) (w := w) (base := base) T
  have kp_l_refused := F_l_refused.kp
  have b_l_refused : Binds K fd_l_refused ["_law_thing"] [] := FunD.bindsN F_l_refused (fun _ _ _ _ _ _ us hl => match us, hl with | [_], _ => rfl)
  obtain ⟨fd_l_whole, G_l_whole, F_l_whole⟩ := ok_l_whole (P := P) (w := w) (base := base) T
  have kp_l_whole := F_l_whole.kp
  have b_l_whole : Binds K fd_l_whole ["_law_found"] [] := FunD.bindsN F_l_whole (fun _ _ _ _ _ _ us hl => match us, hl with | [_], _ => rfl)
  obtain ⟨fd_time_text, G_time_text, F_time_text⟩ := ok_time_text (P := P) (w := w) (base := base) T
  have kp_time_text := F_time_text.kp
  have b_time_text : Binds K fd_time_text ["ticks"] [] := FunD.bindsN F_time_text (fun _ _ _ _ _ _ us hl => match us, hl with | [_], _ => rfl)
  refine ⟨fd, F.ok sc_l_read (by walk_at "g94len") (fun cdv A outer st H vs Q E hr h => ?_), F⟩
  · obtain ⟨l, rfl, hl, k⟩ := h
    refine ⟨_, PSs.nox (pss_cons (ps_set (i := 1) sc_l_read.nd rfl (Or.inl rfl) (pe_call G_l_ticks (hr.mono (by decide)) rfl (glo__law_ticks T) kp_l_ticks b_l_ticks .nil pass0 (pa_cons (pv 0) pa_nil)))
        (pss_cons (ps_if (pt_cmpR op_isN (pv 1) pe_non (nomark _)) (pss_one (ps_ret (pe_call G_l_refused (hr.mono (by decide)) rfl (glo__law_refused T) kp_l_refused b_l_refused .nil pass0 (pa_cons (pv 0) pa_nil)))) pss_nil)
        (pss_cons (ps_set (i := 2) sc_l_read.nd rfl (Or.inl rfl) (pe_call G_time_of (hr.mono (by decide)) rfl (glo_time_of T) kp_time_of b_time_of .nil (passes_call takes0 (fun _ _ _ _ h => h)) (pa_cons (pv 0) pa_nil)))
        (pss_one (ps_ret (pe_and (pe_call G_l_whole (hr.mono (by decide)) rfl (glo__law_whole T) kp_l_whole b_l_whole .nil pass0 (pa_cons (pv 2) pa_nil)) (pe_and (pe_cmpR op_eq (pv 2) (pv 1) (nomark _)) (pe_one (pe_cmpR op_eq (pe_call G_time_text (hr.mono (by decide)) rfl (glo_time_text T) kp_time_text b_time_text .nil pass0 (pa_cons (pv 2) pa_nil)) (pv 0) (nomark _)))))))))), ?_⟩
    by_cases hw : ∃ n : Nat, n ≤ 1000000000 ∧ l = written n
    · obtain ⟨n, hn, rfl⟩ := hw
      refine ⟨_, rfl, _, rfl, hl, .inl ⟨n, hn, rfl, fun H1 s1 => ?_⟩⟩
      walk_at "wks"
      refine .inr ⟨written n, rfl, by omega, .inl ⟨n, hn, rfl, fun H2 s2 => ?_⟩⟩
      walk_at "wks"
      refine (if_pos (decide_eq_true rfl)).mpr ?_
      walk_at "wks"
      intro H3 s3
      walk_at "wks"
      rw [decide_eq_true (show V.str (SX.S (written n)) = V.str (SX.S (written n)) from rfl)]
      exact k _ (s1.trans (s2.trans s3))
    · refine ⟨_, rfl, _, rfl, hl, .inr ⟨fun n h e => hw ⟨n, h, e⟩, fun H1 s1 => ?_⟩⟩
      walk_at "wks"
      exact ⟨.inr ⟨l, rfl, hl, fun n h e => hw ⟨n, h, e⟩⟩, fun H2 s2 => k _ (s1.trans s2)⟩
def spLaw (K : PySem.W.Frag) : Sp := fun vs H Q _ => ∃ (a : Addr) (ns : List Int), vs = [.ref a] ∧ SqL K H a (ns.map V.int) ∧ ns.length ≤ 63 ∧ (∀ z ∈ ns, Builtin.Int.intBits z ≤ 1048576) ∧ Only H ∧ ∀ H', Q (.bl true) H'

theorem ok_law (T : Txt K mg) : ∃ fd, FnOk P w K mg base CX0 6 (He.fAd K ("law", none)) fd ["_law_script"] (spLaw K) ∧ FunD K "law" "law" (defArgs s_law) (defBody s_law) (defScope s_law) [] [] (He.fAd K ("law", none)) fd := by
  obtain ⟨fd, F⟩ := T.c.def_ 15 (d := d_law) rfl
  obtain ⟨fd_l_refused, G_l_refused, F_l_refused⟩ := ok_l_refused (P := P) (w := w) (base := base) T
  have kp_l_refused := F_l_refused.kp
  have b_l_refused : Binds K fd_l_refused ["_law_thing"] [] := FunD.bindsN F_l_refused (fun _ _ _ _ _ _ us hl => match us, hl with | [_], _ => rfl)
  obtain ⟨fd_l_read, G_l_read, F_l_read⟩ := ok_l_read (P := P) (w := w) (base := base) T
  have kp_l_read := F_l_read.kp
  have b_l_read : Binds K fd_l_read ["_law_line_here"] [] := FunD.bindsN F_l_read (fun _ _ _ _ _ _ us hl => match us, hl with | [_], _ => rfl)
  obtain ⟨fd_l_odd, G_l_odd, F_l_odd⟩ := ok_l_odd (P := P) (w := w) (base := base) T
  have kp_l_odd := F_l_odd.kp
  have b_l_odd : Binds K fd_l_odd ["_law_cell"] [] := FunD.bindsN F_l_odd (fun _ _ _ _ _ _ us hl => match us, hl with | [_], _ => rfl)
  obtain ⟨fd_l_cell_at, G_l_cell_at, F_l_cell_at⟩ := ok_l_cell_at (P := P) (w := w) (base := base) T
  have kp_l_cell_at := F_l_cell_at.kp
  have b_l_cell_at : Binds K fd_l_cell_at ["_law_script", "_law_k"] [] := FunD.bindsN F_l_cell_at (fun _ _ _ _ _ _ us hl => match us, hl with | [_, _], _ => rfl)
  obtain ⟨fd_l_line, G_l_line, F_l_line⟩ := ok_l_line (P := P) (w := w) (base := base) T
  have kp_l_line := F_l_line.kp
  have b_l_line : Binds K fd_l_line ["_law_cell"] [] := FunD.bindsN F_l_line (fun _ _ _ _ _ _ us hl => match us, hl with | [_], _ => rfl)
  refine ⟨fd, F.ok sc_law (by walk_at "g94len") (fun cdv A outer st H vs Q E hr h => ?_), F⟩
  · obtain ⟨a, ns, rfl, hS, hlen, hbits, hO, k⟩ := h
    refine ⟨_, PSs.nox (pss_cons (ps_for PassesOwn.never rfl (pi_list (pe_slice sl_listK (pv 0) po_none (po_some pe_int))) (pg_name (i := 1) sc_law.nd rfl (Or.inl rfl)) (pss_one (ps_if (pt_not (pt_val (pe_call G_l_read (hr.mono (by decide)) rfl (glo__law_read T) kp_l_read b_l_read .nil pass0 (pa_cons (pe_call G_l_line (hr.mono (by decide)) rfl (glo__law_line T) kp_l_line b_l_line .nil pass0 (pa_cons (pv 1) pa_nil)) pa_nil)))) (pss_one (ps_ret pe_bl)) pss_nil)))
        (pss_cons (ps_if (pt_not (pt_val (pe_call G_l_read (hr.mono (by decide)) rfl (glo__law_read T) kp_l_read b_l_read .nil pass0 (pa_cons (pe_call G_l_odd (hr.mono (by decide)) rfl (glo__law_odd T) kp_l_odd b_l_odd .nil pass0 (pa_cons (pe_call G_l_cell_at (hr.mono (by decide)) rfl (glo__law_cell_at T) kp_l_cell_at b_l_cell_at .nil pass0 (pa_cons (pv 0) (pa_cons pe_int pa_nil))) pa_nil)) pa_nil)))) (pss_one (ps_ret pe_bl)) pss_nil)
        (pss_cons (ps_set (i := 2) sc_law.nd rfl (Or.inl rfl) (pe_ix ix_list (pe_lstK (pa_cons pe_non (pa_cons pe_int (pa_cons pe_int (pa_cons pe_bl (pa_cons pe_bl (pa_cons (pe_lstK (pa_cons pe_str pa_nil)) (pa_cons (pe_tupK (pa_cons pe_str pa_nil)) (pa_cons pe_dnewTK pa_nil))))))))) (pe_op op_mod (pe_call G_l_cell_at (hr.mono (by decide)) rfl (glo__law_cell_at T) kp_l_cell_at b_l_cell_at .nil pass0 (pa_cons (pv 0) (pa_cons pe_int pa_nil))) pe_int) (fun _ _ => rfl)))
        (pss_one (ps_ret (pe_call G_l_refused (hr.mono (by decide)) rfl (glo__law_refused T) kp_l_refused b_l_refused .nil pass0 (pa_cons (pv 2) pa_nil))))))), ?_⟩
    clear hbits hO
    obtain ⟨ms, em, hms, _⟩ := cut_ints ns none (some 40)
    walk_at "wks"
    rename_i p H1 f1 s1 h1
    rw [em] at h1
    have hS1 := s1.seq hS
    refine ⟨⟨_, .of h1⟩, for_list (K := K) (a := p) (xs := ms.map V.int) (fun i σ' H' => ∃ v : Option V, σ' = [some (.ref a), v, none] ∧ Same H1 H') ⟨_, rfl, .refl _⟩ (fun i σ' H' _ ⟨_, _, s⟩ => s.seq (.of h1)) ?_ ?_⟩
    · rintro i y σ' H' hi ⟨v, rfl, s⟩
      obtain ⟨z, rfl, _, _⟩ := int_at hi
      walk_at "wks"
      intro l hl
      refine ⟨l, rfl, by omega, fun H2 s2 => ?_⟩
      walk_at "wks"
      exact s.trans s2
    rintro σ' H2 ⟨v, rfl, s2⟩
    have hS2 := s2.seq hS1
    walk_at "wks"
    intro c0
    walk_at "wks"
    intro l hl H3 s3
    have hS3 := s3.seq hS2
    walk_at "wks"
    intro H4 s4
    have hS4 := s4.seq hS3
    walk_at "wks"
    rename_i pA HA fA sA hA pB HB fB sB hB pC HC fC sC hC pD HD fD sD hD
    refine ⟨⟨ns, sD.seq (sC.seq (sB.seq (sA.seq hS4)))⟩, by decide, fun r => ?_⟩
    have odds : ∀ x ∈ [V.non, V.int 0, V.int 1, V.bl true, V.bl false, V.ref pA, V.ref pB, V.ref pC], Odd K HD x := by
      intro x hx
      refine .inl fun H' s => ?_
      simp only [List.mem_cons, List.not_mem_nil, or_false] at hx
      rcases hx with rfl | rfl | rfl | rfl | rfl | rfl | rfl | rfl
      · exact ⟨_, .base .non, kit_ty (by decide +kernel)⟩
      · exact ⟨_, .base (.int _), kit_ty (by decide +kernel)⟩
      · exact ⟨_, .base (.int _), kit_ty (by decide +kernel)⟩
      · exact ⟨_, .base (.bl _), kit_ty (by decide +kernel)⟩
      · exact ⟨_, .base (.bl _), kit_ty (by decide +kernel)⟩
      · exact ⟨_, .base (.lst (s _ _ (sD _ _ (sC _ _ (sB _ _ hA))))), kit_ty (by decide +kernel)⟩
      · exact ⟨_, .base (.tup (s _ _ (sD _ _ (sC _ _ hB)))), kit_ty (by decide +kernel)⟩
      · exact ⟨_, .base (.dT (s _ _ (sD _ _ hC))), kit_ty (by decide +kernel)⟩
    obtain ⟨x, hx, hx2⟩ := atI_lt (xs := [V.non, V.int 0, V.int 1, V.bl true, V.bl false, V.ref pA, V.ref pB, V.ref pC]) (show 0 ≤ r % 8 by omega) (show r % 8 < ((8 : Nat) : Int) by omega)
    walk_at "wks"
    exact ⟨odds x (List.mem_of_getElem? hx2), fun H' _ => k H'⟩
theorem law_facts {fa : Addr} (T : Txt K mg) (hfa : mg "law" = some (.ref fa)) :
    ∃ fd : FuncData, (∀ (s : Shared) (v : Value), BindsTo s fd ⟨[v], []⟩ [("_law_script", v)]) ∧ ∀ base : Heap, K.In base → base.Ns mainGlobals mg → FnOk P w K mg base CX0 6 fa fd ["_law_script"] (spLaw K) := by
  have e := hfa.symm.trans (glo_law T)
  cases e
  obtain ⟨fd, _, F⟩ := ok_law (P := P) (w := w) (base := default) T
  refine ⟨fd, fun s v => FunD.bindsA (ps := ["_law_script"]) F (fun _ _ _ _ _ _ us hl => match us, hl with | [_], _ => rfl) s [v] rfl, fun base _ _ => ?_⟩
  obtain ⟨fd', G, F'⟩ := ok_law (P := P) (w := w) (base := base) T
  have q : fd' = fd := F'.fd_eq F
  rw [← q]
  exact G


end

abbrev R : PySem.W.OpenRow := PySem.W.OpenLaw.row PySem.Challenge.rw_lampcues_k02_times_read
abbrev hk : PySem.W.Hook := L2.hookZ 6 fa fn exB
def ob (s : PySem.W.SharedT) : He.AlD × Bool := L2.obsZ 6 fa fn exB (HandSHeadRun.getT s)
theorem ob_eq (s : PySem.W.SharedT) : ob s = hk.obs s.abs := L2.obsZ_eq (HandSHeadRun.getT_eq s)
def loose0 : List PySem.Str := ["LampError", "NoText", "NoTime", "NoSlot", "NoWorth", "NoCue", "MOST", "FIGURES", "is_time", "time_text", "are_figures", "time_of", "_law_cell_at", "_law_whole", "_law_sign_by", "_law_text", "_law_line", "_law_odd", "_law_number", "_law_ticks", "_law_refused", "_law_read"]
def loose : List PySem.Str := loose0
theorem run (w : World) : HandSHeadRun.RunEq R (PySem.W.view R.prog [25]) hk ob 9000 loose w := by
  intro os
  kernel_rfl
end G94
open PySem PySem.W PySem.Calls PyProof.Rows
theorem PySem.Challenge.cw_lampcues_k02_times_read_holds : PySem.Challenge.rw_lampcues_k02_times_read.Holds := by
  w_on; o_law
  refine HandSHeadRun.head_any (r := OpenLaw.row PySem.Challenge.rw_lampcues_k02_times_read) (q := view (OpenLaw.row PySem.Challenge.rw_lampcues_k02_times_read).prog [25]) (H := G94.hk) (ob := G94.ob) (M := 9000) (loose := G94.loose) (d := HandSHeadRun.topDef (OpenLaw.row PySem.Challenge.rw_lampcues_k02_times_read).prog 25) (kwd := []) G94.ob_eq
    (by kernel_rfl) (fun s => by kernel_rfl) G94.run (by kernel_rfl) (by kernel_rfl) (by kernel_rfl) (by rfl) (by first | assumption | decide +kernel) (by decide +kernel) ⟨rfl, rfl, rfl, rfl, rfl, by decide +kernel⟩ ?hw ?hc
  case hw => w_witness2
  case hc =>
    refine L2.walk_ofEB (l := PySem.Challenge.rw_lampcues_k02_times_read) (n := 63) (k := 6) (x := "_law_script") (CX := L2.CX0) rfl (by decide) (by kernel_rfl) ⟨rfl, by decide, by decide⟩ ?F (fun _ _ _ _ z => z)
    intro w mg fa h Y G hmg0
    obtain ⟨K, KX, c, cx⟩ := Y
    have hmg : mg ("law" : PySem.Str) = some (.ref fa) := by
      have e : (HandSHeadRun.topDef (OpenLaw.row PySem.Challenge.rw_lampcues_k02_times_read).prog 25).name = ("law" : PySem.Str) := by kernel_rfl
      rw [← e]
      exact hmg0
    obtain ⟨fd, hb, hF⟩ := G94.law_facts (P := (PySem.Challenge.rw_lampcues_k02_times_read).prog) (w := w) ⟨c, ⟨h, KX, G⟩, cx⟩ hmg
    exact ⟨K, fd, G94.spLaw K, KX, hb, fun H a ns hl hb hH hS => ⟨a, ns, rfl, hS, hl, hb, hH, fun _ => rfl⟩, hF⟩
