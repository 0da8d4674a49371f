import PyProof.Rows.All
import Wide.All
import OpenK.AllK
import Wide.FinOn
import KE.KStateDown
import HandS.ForMost
import HandS.Exc
import HandS.TryOnly
import HandS.ExcOwn
import HandS.WordsExc
import HandS.Defaults
import HandS.Wide
import HandS.IsInst
import HandS.ExcIs
import HandS.EndBits
import HandS.TupLe
import HandS.Rev
import HandS.Codes
import HandS.MakeKw
import HandS.StrMore
import HandS.Head0
import HandS.Head1
import HandS.Head2
import HandS.HeadEnd
import HandS.HeadHook1
import HandS.HeadHook2
import HandS.More
import HandS.SortKw
import KE.KMinKey
import HandS.RevTup
import PySem.Challenge.RW_lampcues_k40_refused_deeds
set_option pp.maxSteps 900
set_option Elab.async false
set_option linter.all false
set_option maxRecDepth 100000
set_option maxHeartbeats 4000000
namespace L2
open PySem PySem.Spec PyProof.Rows
/-! ### own rules, own words -/
/-- a law's end by facts, with the script's bits and the only tracked thing told -/
theorem walk_ofEB {l : PySem.W.OpenLaw} {n k : Nat} {q : Program} {loose : List Str} {XP : (Str → Option Value) → Heap → Prop} {YP : World → Heap → Prop} {d : DefRec} {CX : CXT} {x : Str}
    (hn : l.most = some n) (hn2 : n ≤ sizeLine) (hdf : d.params.defaults = []) (hr : Room k callerA)
    (F : ∀ (w : World) (mg : Str → Option Value) (fa : Addr) (h : Heap), YP w h → h.Ns mainGlobals mg → mg d.name = some (.ref fa) →
      ∃ (K : PySem.W.Frag) (fd : FuncData) (sp : Sp), K.In h ∧ (∀ (s : Shared) (u : Value), BindsTo s fd ⟨[u], []⟩ [(x, u)]) ∧
        (∀ (H : Hp) (a : Addr) (ns : List Int), ns.length ≤ n → (∀ z ∈ ns, Builtin.Int.intBits z ≤ 1048576) → Only H → SqL K H a (ns.map V.int) → sp [.ref a] H (fun v _ => v = .bl true) fun _ _ _ => False) ∧
        ∀ base : Heap, K.In base → base.Ns mainGlobals mg → FnOk l.prog w K mg base CX k fa fd [x] sp)
    (hCX : ∀ (H : Hp) (s : Shared) (e : Value) (s' : Shared), CX [] H s (fun _ _ _ => False) e s' → False) :
    PySem.W.WalkO q loose XP YP l.row.toRowW d [] (fun f vs => PySem.call f vs) := by
  refine Att.attach_callB hn hdf fun w s₀ s₁ mg mb fa o pm cd doc a vs ns G Y ho hd hcd hmg hobj hints hlen hbits hg => ?_
  obtain ⟨K, fd, sp, KX, hb, hsp, hF⟩ := F w mg fa _ Y G.T.g hmg
  exact law_call KX G.T.g G.T.b G.T.builtins G.T.nolimit hg hobj hints (Nat.le_trans hlen hn2) hr hF hb (fun H hO hS => hsp H a ns hlen hbits hO hS) fun H e s' => hCX H s₁ e s'
section
variable {X : Cx}
/-- a written power -/
theorem pe_powC {i j v : Int} {a b : Nat} {p1 p2 pos : Pos} (e : i ^ j.toNat = v) (h : 0 ≤ j ∧ j ≤ 1000000 ∧ i.natAbs < 2 ^ 64) : PE X (.BinOp (.Constant (.int i) a p1) .Pow (.Constant (.int j) b p2) pos) (tC (.int v)) := by
  subst e
  refine ⟨fun pins s σ H Q I q => ?_⟩
  exact (pe_op (X := X) op_pow pe_int pe_int).run pins s σ H Q I ⟨i, j, rfl, rfl, h, q⟩
/-- a written negative number -/
theorem pe_negC {i : Int} {a : Nat} {p1 pos : Pos} : PE X (.UnaryOp .USub (.Constant (.int i) a p1) pos) (tC (.int (-i))) := by
  refine ⟨fun pins s σ H Q I q => ?_⟩
  exact (pe_un (X := X) un_neg pe_int).run pins s σ H Q I ⟨i, rfl, q⟩
end
theorem iteD {c A B : Prop} [Decidable c] (h1 : c → A) (h2 : ¬ c → B) : if decide c = true then A else B := by
  by_cases h : c
  · rw [if_pos (decide_eq_true h)]
    exact h1 h
  · rw [if_neg (by rw [decide_eq_false h]; exact Bool.false_ne_true)]
    exact h2 h
theorem iteND {c A B : Prop} [Decidable c] (h1 : ¬ c → A) (h2 : c → B) : if (!decide c) = true then A else B := by
  by_cases h : c
  · rw [decide_eq_true h]
    exact iteF (h2 h)
  · rw [decide_eq_false h]
    exact iteT (h1 h)
theorem iteV {a b : Int} {A B : Prop} (h1 : a = b → A) (h2 : a ≠ b → B) : if decide (V.int a = V.int b) = true then A else B :=
  iteD (fun e => h1 (V.int.inj e)) fun e => h2 fun q => e (congrArg V.int q)
theorem iteNV {a b : Int} {A B : Prop} (h1 : a ≠ b → A) (h2 : a = b → B) : if (!decide (V.int a = V.int b)) = true then A else B :=
  iteND (fun e => h1 fun q => e (congrArg V.int q)) fun e => h2 (V.int.inj e)
theorem iteB {b : Bool} {A B : Prop} (h1 : b = true → A) (h2 : b = false → B) : if b = true then A else B := by
  cases b with
  | true => exact iteT (h1 rfl)
  | false => exact iteF (h2 rfl)
theorem iteDT {c A B : Prop} [Decidable c] (h : c) (h1 : A) : if decide c = true then A else B := iteD (fun _ => h1) fun q => absurd h q
theorem iteDF {c A B : Prop} [Decidable c] (h : ¬ c) (h1 : B) : if decide c = true then A else B := iteD (fun q => absurd q h) fun _ => h1
theorem iteVT {a b : Int} {A B : Prop} (h : a = b) (h1 : A) : if decide (V.int a = V.int b) = true then A else B := iteV (fun _ => h1) fun q => absurd h q
theorem iteVF {a b : Int} {A B : Prop} (h : a ≠ b) (h1 : B) : if decide (V.int a = V.int b) = true then A else B := iteV (fun q => absurd q h) fun _ => h1
theorem iteNVF {a b : Int} {A B : Prop} (h : a = b) (h1 : B) : if (!decide (V.int a = V.int b)) = true then A else B := iteNV (fun q => absurd h q) fun _ => h1
theorem yes_lc {σ : St} {H : Hp} {A B : Hp → Prop} (h : A H) : tYes σ H (fun b H3 => if b = true then A H3 else B H3) := by
  show if true = true then A H else B H
  rw [if_pos rfl]
  exact h
theorem qT {Q : VK} {H : Hp} {c : Prop} [Decidable c] (h : c) (k : Q (.bl true) H) : Q (.bl (decide c)) H := by
  rw [decide_eq_true h]
  exact k
theorem qF {Q : VK} {H : Hp} {c : Prop} [Decidable c] (h : ¬ c) (k : Q (.bl false) H) : Q (.bl (decide c)) H := by
  rw [decide_eq_false h]
  exact k
theorem iteS {a b : List Nat} {z : Str} {A B : Prop} (e : z = SX.S b) (h1 : a = b → A) (h2 : a ≠ b → B) : if decide (V.str (SX.S a) = V.str z) = true then A else B := by
  subst e
  exact iteD (fun q => h1 (SX.S_inj (V.str.inj q))) fun q => h2 fun r => q (congrArg (fun l => V.str (SX.S l)) r)
theorem iteNSt {a b : List Nat} {z : Str} {A B : Prop} (e : z = SX.S b) (h1 : a ≠ b → A) (h2 : a = b → B) : if (!decide (V.str (SX.S a) = V.str z)) = true then A else B := by
  subst e
  exact iteND (fun q => h1 fun r => q (congrArg (fun l => V.str (SX.S l)) r)) fun q => h2 (SX.S_inj (V.str.inj q))
theorem cut_ints (ns : List Int) (lo hi : Option Int) : ∃ ms : List Int, cutV (ns.map V.int) lo hi = ms.map V.int ∧ ms.length ≤ ns.length ∧ ∀ z ∈ ms, z ∈ ns := by
  refine ⟨(ns.drop (HT.sIx (ns.map V.int).length 0 lo)).take (HT.sIx (ns.map V.int).length (ns.map V.int).length hi - HT.sIx (ns.map V.int).length 0 lo), ?_, ?_, ?_⟩
  · unfold cutV
    rw [List.map_take, List.map_drop]
  · rw [List.length_take, List.length_drop]
    omega
  · intro z hz
    exact List.mem_of_mem_drop (List.mem_of_mem_take hz)
theorem int_at {ns : List Int} {i : Nat} {y : V} (h : (ns.map V.int)[i]? = some y) : ∃ z, y = V.int z ∧ ns[i]? = some z ∧ i < ns.length := by
  rw [List.getElem?_map] at h
  cases e : ns[i]? with
  | none =>
    rw [e] at h
    cases h
  | some z =>
    rw [e] at h
    exact ⟨z, (Option.some.inj h).symm, rfl, (List.getElem?_eq_some_iff.mp e).1⟩
theorem atI_lt {xs : List V} {k : Int} (h0 : 0 ≤ k) (h1 : k < xs.length) : ∃ v, atI xs k = some v ∧ xs[k.toNat]? = some v := by
  have hl : k.toNat < xs.length := by omega
  refine ⟨xs[k.toNat], ?_, List.getElem?_eq_getElem hl⟩
  obtain ⟨n, rfl⟩ : ∃ n : Nat, k = n := ⟨k.toNat, by omega⟩
  exact atI_nat (List.getElem?_eq_getElem hl)
theorem at2 {a b k : Int} (h0 : 0 ≤ k) (h1 : k < 2) : ∃ v, atI [V.int a, V.int b] k = some (V.int v) ∧ ((k = 0 ∧ v = a) ∨ (k = 1 ∧ v = b)) := by
  rcases (by omega : k = 0 ∨ k = 1) with rfl | rfl
  · exact ⟨a, rfl, .inl ⟨rfl, rfl⟩⟩
  · exact ⟨b, rfl, .inr ⟨rfl, rfl⟩⟩
theorem at3 {a b c k : Int} (h0 : 0 ≤ k) (h1 : k < 3) : ∃ v, atI [V.int a, V.int b, V.int c] k = some (V.int v) ∧ ((k = 0 ∧ v = a) ∨ (k = 1 ∧ v = b) ∨ (k = 2 ∧ v = c)) := by
  rcases (by omega : k = 0 ∨ k = 1 ∨ k = 2) with rfl | rfl | rfl
  · exact ⟨a, rfl, .inl ⟨rfl, rfl⟩⟩
  · exact ⟨b, rfl, .inr (.inl ⟨rfl, rfl⟩)⟩
  · exact ⟨c, rfl, .inr (.inr ⟨rfl, rfl⟩)⟩
/-- a call that writes all parameters, the last ones by name -/
theorem kb_all {K : PySem.W.Frag} {x qual : Str} {params : Arguments} {body : List Stmt} {scope : Scope} {dvs : List V} {kws : List (Str × V)} {f : Addr} {fd : FuncData} {ps : List Str} (F : FunD K x qual params body scope dvs kws f fd) (n : Nat) (ks : List Str) (hd : dvs ≠ [])
    (h : ∀ (T : Addr) (kV doc pm : Value) (an : Option Addr) (cdv ct : Value) (us its ws : List Value), us.length = n → its.length = dvs.length → ws.length = ks.length →
      ∃ k, bindArgs (PySem.W.fnOf x qual params body scope (.ref T) kV doc pm an cdv ct) ⟨us, ks.zip ws⟩ = seqItems? (.ref T) >>= k ∧ k (some its.toArray) = pure (ps.zip (us ++ ws))) : KBn K fd ps n ks (fun us ws => us ++ ws) (fun vs zs => vs ++ zs) := by
  obtain ⟨oc, od, dV, kV, doc, pm, an, cdv, ct, osl, rfl, lk, hcd, hD, _⟩ := F.ex
  rcases hD with ⟨e, _⟩ | ⟨_, T, o, its, m, rfl, lT, oT, rT⟩
  · exact absurd e hd
  · refine ⟨fun s us ws X h1 h2 => ?_, fun r1 r2 => r1.append r2⟩
    obtain ⟨k, e1, e2⟩ := h T kV doc pm an cdv ct us its ws h1 rT.length.symm h2
    refine BindsTo.of_looks fun M => ?_
    rw [e1]
    exact looks_items X lT oT (.of_pure e2)
theorem FunD.fd_eq {K : PySem.W.Frag} {x qual : Str} {params : Arguments} {body : List Stmt} {scope : Scope} {dvs : List V} {kws : List (Str × V)} {f : Addr} {fd fd' : FuncData} (F : FunD K x qual params body scope dvs kws f fd) (F' : FunD K x qual params body scope dvs kws f fd') : fd = fd' := by
  obtain ⟨_, _, _, _, _, _, _, _, _, _, _, l, _⟩ := F.ex
  obtain ⟨_, _, _, _, _, _, _, _, _, _, _, l', _⟩ := F'.ex
  rw [l] at l'
  simp only [Option.some.injEq, Obj.mk.injEq, Data.func.injEq] at l'
  exact l'.2.2.1
theorem at4 {a b c d k : Int} (h0 : 0 ≤ k) (h1 : k < 4) : ∃ v, atI ([a, b, c, d].map V.int) k = some (V.int v) := by
  rcases (by omega : k = 0 ∨ k = 1 ∨ k = 2 ∨ k = 3) with rfl | rfl | rfl | rfl
  · exact ⟨a, rfl⟩
  · exact ⟨b, rfl⟩
  · exact ⟨c, rfl⟩
  · exact ⟨d, rfl⟩
theorem ints_last {es : List Int} {v : Int} (h : es.getLast? = some v) : atI (es.map V.int) (-1) = some (V.int v) := by
  obtain ⟨r, e⟩ := List.getLast?_eq_some_iff.mp h
  rw [e, List.map_append]
  exact atI_last _ _
/-- a loop over the signs of a text -/
theorem for_text {l : List Nat} {g : TG} {tb : TS} {D : Ends} {σ : St} {H : Hp} (Pv : Nat → St → Hp → Prop) (h0 : Pv 0 σ H)
    (hs : ∀ (i : Nat) (c : Nat) (σ : St) (H : Hp), l[i]? = some c → Pv i σ H → g (.str ⟨#[c]⟩) σ H (fun σ2 H2 => tb { D with nx := Pv (i + 1), ct := Pv (i + 1), bk := D.nx } σ2 H2))
    (hd : ∀ σ H, Pv l.length σ H → D.nx σ H) :
    ∃ W : Nat → Nat → St → Hp → Prop, (∃ m, W 0 m σ H) ∧ ∀ i m σ H, W i m σ H → ((Its (SX.S l)).stop i H ∧ D.nx σ H) ∨
      ((Its (SX.S l)).go i H ∧ ∃ N : St → Hp → Prop, (∀ σ' H', N σ' H' → ∃ m', m' < m ∧ W (i + 1) m' σ' H') ∧ ∀ v H', (Its (SX.S l)).yld i H v H' → g v σ H' fun σ2 H2 => tb { D with nx := N, ct := N, bk := D.nx } σ2 H2) := by
  refine ⟨fun i m σ H => m = l.length - i ∧ i ≤ l.length ∧ Pv i σ H, ⟨_, rfl, Nat.zero_le _, h0⟩, ?_⟩
  intro i m σ1 H1 hw
  obtain ⟨em, hi, p⟩ := hw
  have es : (SX.S l).cps.size = l.length := by simp
  rcases Nat.lt_or_ge i l.length with hlt | hge
  · right
    refine ⟨(by show i < (SX.S l).cps.size; omega), Pv (i + 1), fun σ' H' p' => ⟨l.length - (i + 1), by omega, rfl, by omega, p'⟩, ?_⟩
    intro v H' hy
    obtain ⟨e, c, hc, ev⟩ := hy
    rw [e, ev]
    refine hs i c σ1 H1 ?_ p
    have h2 : (SX.S l).cps[i]? = l[i]? := by simp
    rw [← h2]
    exact hc
  · left
    refine ⟨(by show (SX.S l).cps.size ≤ i; omega), hd σ1 H1 ?_⟩
    have e : i = l.length := by omega
    rw [← e]
    exact p
theorem atI_head {α : Type} (c : α) (r : List α) : atI (c :: r) 0 = some c := by
  show atI (c :: r) ((0 : Nat) : Int) = some c
  exact atI_nat rfl
theorem small_size {n : Nat} (h : n ≤ 100000) : n ≤ sizeLine := Nat.le_trans h (by decide)
theorem Same.new {H H' : Hp} {p : Addr} {o : HO} (e : Same H H') (h : H' p = none) : Same H (upd H' p o) := fun a u q => by
  rw [upd_ne (ne_of_none (e a u q) h)]
  exact e a u q
theorem Same.mut {H H' : Hp} {p : Addr} {o : HO} (e : Same H H') (h : H p = none) : Same H (upd H' p o) := fun a u q => by
  rw [upd_ne (ne_of_none q h)]
  exact e a u q
/-- o.m(e, .., k = v, ..) -/
def tMethN (C : Addr) (m : Str) (n j : Nat) (sp : Sp) (gV : List V → List V → List V) (E : XK) (ta : TE) (t tk : TA) : TE := fun σ H Q => ta σ H fun x H1 => ∃ a dx fs, x = .ref a ∧ H1 a = some (.ins C dx fs) ∧ fs.lookup m = none ∧
  t σ H1 fun vs H2 => tk σ H2 fun zs H3 => vs.length = n ∧ zs.length = j ∧ sp (gV (x :: vs) zs) H3 Q E
theorem pe_methN {X : Cx} {CX : CXT} {k n : Nat} {f C : Addr} {fd : FuncData} {ps ks : List Str} {sp : Sp} {E : XK} {m : Str} {o e : Expr} {es : List Expr} {kws : List Keyword} {apos pos : Pos} {ta : TE} {t tk : TA} {g : List Value → List Value → List Value} {gV : List V → List V → List V} {pl : Sem Bool}
    (he : PE X o ta) (c : Cls X.K C) (hm : Meth X.K C m f) (F : FnOk X.prog X.w X.K X.mg X.base CX k f fd ps sp) (hr : Room k X.A) (hb : KBn X.K fd ps (n + 1) ks g gV) (hx : Passes CX X E) (ha : PA X (e :: es) t) (hkw : PK X kws tk)
    (hall : (backToKw pos (keywordEach kws X.env)).all (·.1.isSome) = true := by rfl)
    (hks : (backToKw pos (keywordEach kws X.env)).filterMap (·.1) = ks := by rfl)
    (hst : starEach (e :: es) X.env = (false, eval e X.env) :: starEach es X.env := by rfl)
    (hpl : ((backTo pos (starEach (e :: es) X.env)).any (·.1) || (backToKw pos (keywordEach kws X.env)).any (·.1.isNone)) = false := by rfl)
    (ht : eval (.Call (.Attribute o m apos) (e :: es) kws pos) X.env = (do
      let ov ← eval o X.env
      standAt apos.atName
      let (f, first) ← holding [ov] (getMethod ov m pl)
      callWith pos f first (backTo pos (starEach (e :: es) X.env)) (backToKw pos (keywordEach kws X.env))) := by rfl) :
    PE X (.Call (.Attribute o m apos) (e :: es) kws pos) (tMethN C m n ks.length sp gV E ta t tk) := by
  constructor
  intro pins s σ H Q I hh
  apply PySem.W.methodCall_KW (pl := pl) (he := ht)
  apply thn (he.run pins s σ H _ I hh)
  rintro u s1 ⟨x, H1, I1, rx, a, dx, fs, rfl, ea, l, q⟩
  obtain rfl : u = Value.ref a := rx
  apply getmeth_ok I1 ea c hm l
  apply PySem.W.callWith_KW (first := [.ref a]) (h₀ := X.base) I.ok.mod.kin hm.kp hall (hplain := hpl) (he := hst)
  apply thn (ha.run pos pins s1 σ H1 _ I1 q)
  rintro us s2 ⟨vs, H2, I2, r, q2⟩
  apply thn (hkw.run pos pins s2 σ H2 _ I2 q2)
  rintro ws s3 ⟨zs, H3, I3, rz, l1, l2, q3⟩
  refine ⟨I3.kIn, ?_⟩
  rw [hks]
  exact run_fnN (us := .ref a :: us) (vs := .ref a :: vs) F hr hb hx I3 (.cons rfl r) rz (congrArg Nat.succ l1) l2 q3
theorem updN {H : Hp} {a b : Addr} {o u : HO} (h : b ≠ a) (e : H b = some u) : upd H a o b = some u := (upd_ne h).trans e
theorem neN {H : Hp} {a b : Addr} {u : HO} (h' : H b = none) (h : H a = some u) : a ≠ b := ne_of_none h h'
theorem neN2 {H : Hp} {a b : Addr} {u : HO} (h' : H a = none) (h : H b = some u) : a ≠ b := (ne_of_none h h').symm
theorem Same.at {H H' : Hp} {a : Addr} {u : HO} (s : Same H H') (e : H a = some u) : H' a = some u := s a u e
theorem Same.fresh {H H' : Hp} {a : Addr} (s : Same H H') (e : H' a = none) : H a = none := by
  cases h : H a with
  | none => rfl
  | some u =>
    rw [s a u h] at e
    cases e
theorem freshS {H H' : Hp} {a : Addr} (e : H' a = none) (s : Same H H') : H a = none := s.fresh e
/-! ### a head that asks one more thing of the written part -/
def obsY (n : Nat) (fa : List He.Fa) (fn : List He.DefD) (ex : PySem.W.Frag → Bool) (g : Addr → Option Obj) : He.AlD × Bool := (He.obsDG n fa fn g, ex (He.frG g (He.asD g n)))
def hookY (n : Nat) (fa : List He.Fa) (fn : List He.DefD) (ex : PySem.W.Frag → Bool) : PySem.W.Hook where
  α := He.AlD × Bool
  obs := fun s => obsY n fa fn ex s.heap.get?
  val := fun _ => (He.valD fn, true)
  says := fun _ h => ∃ K : PySem.W.Frag, K.In h ∧ He.SaysD fa fn K ∧ ex K = true
  of := fun _ _ e => ⟨_, He.frG_in, congrArg Prod.fst e, congrArg Prod.snd e⟩
  keeps := fun _ _ _ ⟨K, hK, c⟩ k => ⟨K, PySem.W.Frag.In.keeps hK k, c⟩
theorem obsY_eq {n : Nat} {fa : List He.Fa} {fn : List He.DefD} {ex : PySem.W.Frag → Bool} {g : Addr → Option Obj} {s : Shared} (h : ∀ a, g a = s.heap.get? a) : obsY n fa fn ex g = (hookY n fa fn ex).obs s := by
  have e : g = s.heap.get? := funext h
  rw [e]
  rfl
/-! ### what a class of errors must say, as one Bool -/
def excB (K : PySem.W.Frag) (x : Str) : Bool :=
  decide (PySem.W.findIn K (.ref (He.ga K x)) "__getattribute__" = some (some (.builtin "BaseException.__getattribute__"))) && (decide (PySem.W.findIn K (.ref (He.ga K x)) "__getattr__" = some none) &&
  (decide (PySem.W.subIn K (.ref (He.ga K x)) (.type "BaseException") = some true) && (PySem.W.hasDictIn K (He.ga K x) && (decide (PySem.W.findIn K (.ref (He.ga K x)) "__class__" = some (some (.builtin "object.__class__"))) &&
  (decide (PySem.W.specialIn K (.builtin "object.__class__") "__get__" = some (some (.builtin "getset_descriptor.__get__"))) && (decide (PySem.W.takesIn K (.builtin "object.__class__") = some true) && decide (PySem.W.mroIn K (He.ga K x) (.type "object") = some true)))))))
theorem excB_ok {K : PySem.W.Frag} {x : Str} (h : excB K x = true) : ExcC K (He.ga K x) := by
  obtain ⟨h1, h⟩ := He.ba h
  obtain ⟨h2, h⟩ := He.ba h
  obtain ⟨h3, h⟩ := He.ba h
  obtain ⟨h4, h⟩ := He.ba h
  obtain ⟨h5, h⟩ := He.ba h
  obtain ⟨h6, h⟩ := He.ba h
  obtain ⟨h7, h8⟩ := He.ba h
  exact ⟨of_decide_eq_true h1, of_decide_eq_true h2, of_decide_eq_true h3, h4, of_decide_eq_true h5, of_decide_eq_true h6, of_decide_eq_true h7, of_decide_eq_true h8⟩
/-- isinstance of what a suite holds, its class told by the reading -/
def rIsX (K : PySem.W.Frag) (cls : Value) (dc : Option Addr) (a : Addr) : List V → Hp → VK → Prop := fun xs H Q => ∃ D, cls = .ref D ∧ dc = none ∧ ExcC K D ∧ rIsE K D a xs H Q
theorem call_isX {X : Cx} {a : Addr} {cls : Value} {dc : Option Addr} {oe : Obj} {pn : List (Addr × Obj)} (hz : Zc cls dc oe) (hf : ∃ vs, oe.data = .fields vs) : CallR (X.suite a ((a, oe) :: pn)) (.builtin "isinstance") (rIsX X.K cls dc a) := by
  intro pins s σ H xs us Q I r h
  obtain ⟨D, e1, e2, C, q⟩ := h
  subst e1 e2
  exact call_isE C hz hf pins s σ H xs us Q I r q
end L2
/-! ### rules whose readings name the heap behind them -/
namespace L2
open PySem PySem.Spec PyProof.Rows
def Fr (H : Hp) (p : Addr) : Prop := H p = none
/-- all but a stays -/
def But (a : Addr) (H H' : Hp) : Prop := ∀ b u, b ≠ a → H b = some u → H' b = some u
theorem But.up {H : Hp} {a : Addr} {o : HO} : But a H (upd H a o) := fun b u n e => updN n e
theorem But.at {H H' : Hp} {a b : Addr} {u : HO} (m : But a H H') (n : b ≠ a) (e : H b = some u) : H' b = some u := m b u n e
theorem But.kind {H H' : Hp} {a b : Addr} {o u : HO} (m : But a H H') (h : H a = some o) (e : H b = some u) (d : u ≠ o) : H' b = some u := m b u (ne_of e h d) e
theorem But.trans {H H1 H' : Hp} {a : Addr} (m : But a H H1) (n : But a H1 H') : But a H H' := fun b u h e => n b u h (m b u h e)
theorem But.same {H H1 H' : Hp} {a : Addr} (m : But a H H1) (s : Same H1 H') : But a H H' := fun b u h e => s _ _ (m b u h e)
theorem But.before {H H1 H' : Hp} {a : Addr} (m : But a H1 H') (s : Same H H1) : But a H H' := fun b u h e => m b u h (s _ _ e)
theorem Same.thenBut {H H1 H' : Hp} {a : Addr} (s : Same H H1) (m : But a H1 H') : But a H H' := fun b u h e => m b u h (s _ _ e)
theorem Same.but {H H1 H' : Hp} {a : Addr} (s : Same H H1) (m : But a H1 H') (f : Fr H a) : Same H H' := fun b u e => m b u (ne_of_none e f) (s b u e)
/-- all but a and c stays -/
def But2 (a c : Addr) (H H' : Hp) : Prop := ∀ b u, b ≠ a → b ≠ c → H b = some u → H' b = some u
theorem But2.at {H H' : Hp} {a c b : Addr} {u : HO} (m : But2 a c H H') (n1 : b ≠ a) (n2 : b ≠ c) (e : H b = some u) : H' b = some u := m b u n1 n2 e
theorem But2.kind {H H' : Hp} {a c b : Addr} {o o' u : HO} (m : But2 a c H H') (h : H a = some o) (h' : H c = some o') (e : H b = some u) (d : u ≠ o) (d' : u ≠ o') : H' b = some u := m b u (ne_of e h d) (ne_of e h' d') e
theorem But2.refl {H : Hp} {a c : Addr} : But2 a c H H := fun _ _ _ _ e => e
theorem But.two {H H' : Hp} {a c : Addr} (m : But a H H') : But2 a c H H' := fun b u n _ e => m b u n e
theorem But.two' {H H' : Hp} {a c : Addr} (m : But a H H') : But2 c a H H' := fun b u _ n e => m b u n e
theorem Same.two {H H' : Hp} {a c : Addr} (s : Same H H') : But2 a c H H' := fun b u _ _ e => s b u e
theorem But2.trans {H H1 H' : Hp} {a c : Addr} (m : But2 a c H H1) (n : But2 a c H1 H') : But2 a c H H' := fun b u h1 h2 e => n b u h1 h2 (m b u h1 h2 e)
theorem But2.same {H0 H H' : Hp} {a c : Addr} (m : But2 a c H H') (s : Same H0 H) (f : Fr H0 a) (g : Fr H0 c) : Same H0 H' := fun b u e => m b u (ne_of_none e f) (ne_of_none e g) (s _ _ e)
theorem neF {H : Hp} {a b : Addr} {u : HO} (f : Fr H b) (e : H a = some u) : a ≠ b := ne_of_none e f
theorem neF2 {H : Hp} {a b : Addr} {u : HO} (f : Fr H a) (e : H b = some u) : a ≠ b := (ne_of_none e f).symm
theorem Fr.back {H H' : Hp} {p : Addr} (f : Fr H' p) (s : Same H H') : Fr H p := s.fresh f
/-- a new object -/
def New (o : HO) (H : Hp) (Q : VK) : Prop := ∀ (p : Addr) (H' : Hp), Fr H p → Same H H' → H' p = some o → Q (.ref p) H'
theorem New.out {o : HO} {H : Hp} {Q : VK} (h : New o H Q) (p : Addr) (hp : H p = none) : Q (.ref p) (upd H p o) := h p _ hp ((Same.refl H).new hp) upd_same
/-- the object at a is changed -/
def Put (a : Addr) (o : HO) (H : Hp) (Q : Hp → Prop) : Prop := ∀ H', But a H H' → H' a = some o → Q H'
theorem Put.out {a : Addr} {o : HO} {H : Hp} {Q : Hp → Prop} (h : Put a o H Q) : Q (upd H a o) := h _ But.up upd_same
section
variable {X : Cx} {pos : Pos}
def upE (t : TE) : TE := fun σ H Q => ∃ R : VK, t σ H R ∧ ∀ v H', R v H' → Q v H'
theorem PE.up {e : Expr} {t : TE} (h : PE X e t) : PE X e (upE t) := ⟨fun pins s σ H Q I ⟨R, r, k⟩ => thn (h.run pins s σ H R I r) fun u s1 ⟨v, H1, I1, rv, q⟩ => ⟨v, H1, I1, rv, k v H1 q⟩⟩
theorem PE.imp {e : Expr} {t t' : TE} (h : PE X e t) (k : ∀ σ H Q, t' σ H Q → t σ H Q) : PE X e t' := ⟨fun pins s σ H Q I q => h.run pins s σ H Q I (k σ H Q q)⟩
def upA (t : TA) : TA := fun σ H Q => ∃ R : List V → Hp → Prop, t σ H R ∧ ∀ v H', R v H' → Q v H'
theorem PA.up {es : List Expr} {t : TA} (h : PA X es t) : PA X es (upA t) := ⟨fun pos pins s σ H Q I ⟨R, r, k⟩ => thn (h.run pos pins s σ H R I r) fun u s1 ⟨v, H1, I1, rv, q⟩ => ⟨v, H1, I1, rv, k v H1 q⟩⟩
def upG (t : TG) : TG := fun v σ H Q => ∃ R : St → Hp → Prop, t v σ H R ∧ ∀ σ' H', R σ' H' → Q σ' H'
theorem PG.up {e : Expr} {t : TG} (h : PG X e t) : PG X e (upG t) := ⟨fun pins s σ H v u Q I rv ⟨R, r, k⟩ => thn (h.run pins s σ H v u R I rv r) fun _ s1 ⟨σ1, H1, I1, q⟩ => ⟨σ1, H1, I1, k σ1 H1 q⟩⟩
def upT (t : TT) : TT := fun σ H Q => ∃ R : Bool → Hp → Prop, t σ H R ∧ ∀ b H', R b H' → Q b H'
theorem PTs.up {es : List Expr} {t : TT} (h : PTs X es t) : PTs X es (upT t) := ⟨fun pins s σ H Q I ⟨R, r, k⟩ => thn (h.run pins s σ H R I r) fun b s1 ⟨H1, I1, q⟩ => ⟨H1, I1, k b H1 q⟩⟩
theorem PS.imp {st : Stmt} {t t' : TS} (h : PS X st t) (k : ∀ D σ H, t' D σ H → t D σ H) : PS X st t' := ⟨fun pins s σ H D I q => h.run pins s σ H D I (k D σ H q)⟩
theorem OpR.imp {f : Value → Value → Sem Value} {r r' : R2} (h : OpR X f r) (k : ∀ x y H Q, r' x y H Q → r x y H Q) : OpR X f r' := fun pins s σ H x y v u Q I rx ry q => h pins s σ H x y v u Q I rx ry (k x y H Q q)
theorem CallR.imp {f : Value} {r r' : List V → Hp → VK → Prop} (h : CallR X f r) (k : ∀ xs H Q, r' xs H Q → r xs H Q) : CallR X f r' := fun pins s σ H xs us Q I rx q => h pins s σ H xs us Q I rx (k xs H Q q)
theorem MtR.imp {id : String} {r r' : V → List V → Hp → VK → Prop} (h : MtR X id r) (k : ∀ x xs H Q, r' x xs H Q → r x xs H Q) : MtR X id r' := fun pins s σ H x xs v us Q I rx rs q => h pins s σ H x xs v us Q I rx rs (k x xs H Q q)
theorem SlR.imp {r r' : V → Option Int → Option Int → Hp → VK → Prop} (h : SlR X r) (k : ∀ x lo hi H Q, r' x lo hi H Q → r x lo hi H Q) : SlR X r' := fun pins s σ H x v vl vu lo hi sl Q I rx hs pl pu q => h pins s σ H x v vl vu lo hi sl Q I rx hs pl pu (k x lo hi H Q q)
def tLstK (t : TA) : TE := fun σ H Q => t σ H fun xs H1 => xs.length ≤ sizeLine ∧ New (.lst xs) H1 Q
theorem pe_lstK {es : List Expr} {t : TA} (h : PA X es t) : PE X (.List es pos) (tLstK t) := (pe_lst h.up).imp fun σ H Q q => ⟨_, q, fun xs H1 r => ⟨r.1, r.2.out⟩⟩
def tTupK (t : TA) : TE := fun σ H Q => t σ H fun xs H1 => xs.length ≤ sizeLine ∧ New (.tup xs) H1 Q
theorem pe_tupK {x1} {es : List Expr} {t : TA} (h : PA X es t) : PE X (.Tuple es x1 pos) (tTupK t) := (pe_tup h.up).imp fun σ H Q q => ⟨_, q, fun xs H1 r => ⟨r.1, r.2.out⟩⟩
def tDNewTK : TE := fun _ H Q => New (.dT []) H Q
theorem pe_dnewTK : PE X (.Dict [] [] pos) tDNewTK := pe_dnewT.imp fun σ H Q q => q.out
def tDNewKK : TE := fun _ H Q => New (.dK []) H Q
theorem pe_dnewKK : PE X (.Dict [] [] pos) tDNewKK := pe_dnewK.imp fun σ H Q q => q.out
def rCatK : R2 := fun x y H Q => ∃ l b xs zs, x = .ref l ∧ y = .ref b ∧ H l = some (.lst xs) ∧ H b = some (.lst zs) ∧ xs.length + zs.length ≤ sizeLine ∧ New (.lst (xs ++ zs)) H Q
theorem op_catK : OpR X (binaryOp .Add) rCatK := op_cat.imp fun x y H Q ⟨l, b, xs, zs, e1, e2, h1, h2, z, q⟩ => ⟨l, b, xs, zs, e1, e2, h1, h2, z, q.out⟩
def rRepK : R2 := fun x y H Q => ∃ l k xs, x = .ref l ∧ y = .int k ∧ H l = some (.lst xs) ∧ (-(2 ^ 63) ≤ k ∧ k < 2 ^ 63 ∧ xs.length * k.toNat ≤ sizeLine) ∧ New (.lst (List.replicate k.toNat xs).flatten) H Q
theorem op_repK : OpR X (binaryOp .Mult) rRepK := op_rep.imp fun x y H Q ⟨l, k, xs, e1, e2, h1, ⟨z1, z2, z3⟩, q⟩ => ⟨l, k, xs, e1, e2, h1, z1, z2, z3, q.out⟩
def rSlLK (K : PySem.W.Frag) : V → Option Int → Option Int → Hp → VK → Prop := fun x lo hi H Q => ∃ a xs, x = .ref a ∧ SqL K H a xs ∧ New (.lst (cutV xs lo hi)) H Q
theorem sl_listK : SlR X (rSlLK X.K) := sl_list.imp fun x lo hi H Q ⟨a, xs, e, h, q⟩ => ⟨a, xs, e, h, q.out⟩
def rAppK : V → List V → Hp → VK → Prop := fun x vs H Q => ∃ l xs y, x = .ref l ∧ vs = [y] ∧ H l = some (.lst xs) ∧ xs.length < sizeLine ∧ Put l (.lst (xs ++ [y])) H (Q .non)
theorem mt_appendK : MtR X "list.append" rAppK := MtR.imp mt_append fun x xs H Q ⟨l, ys, y, e1, e2, h, z, q⟩ => ⟨l, ys, y, e1, e2, h, z, q.out⟩
def rExtK : V → List V → Hp → VK → Prop := fun x vs H Q => ∃ l b xs zs, x = .ref l ∧ vs = [.ref b] ∧ H l = some (.lst xs) ∧ H b = some (.lst zs) ∧ xs.length + zs.length ≤ sizeLine ∧ Put l (.lst (xs ++ zs)) H (Q .non)
theorem mt_extendK : MtR X "list.extend" rExtK := MtR.imp mt_extend fun x xs H Q ⟨l, b, ys, zs, e1, e2, h, h2, z, q⟩ => ⟨l, b, ys, zs, e1, e2, h, h2, z, q.out⟩
def rPopLK : V → List V → Hp → VK → Prop := fun x vs H Q => ∃ l xs y, x = .ref l ∧ vs = [] ∧ H l = some (.lst xs) ∧ xs[xs.length - 1]? = some y ∧ Put l (.lst xs.dropLast) H (Q y)
theorem mt_popK : MtR X "list.pop" rPopLK := MtR.imp mt_pop fun x xs H Q ⟨l, ys, y, e1, e2, h, z, q⟩ => ⟨l, ys, y, e1, e2, h, z, q.out⟩
def rPopIK : V → List V → Hp → VK → Prop := fun x vs H Q => ∃ l xs i k y, x = .ref l ∧ vs = [.int i] ∧ H l = some (.lst xs) ∧ (-(2 ^ 63) ≤ i ∧ i < 2 ^ 63) ∧ seqIndex? i xs.length = some k ∧ xs[k]? = some y ∧ Put l (.lst (xs.eraseIdx k)) H (Q y)
theorem mt_popAtK : MtR X "list.pop" rPopIK := MtR.imp mt_popAt fun x xs H Q ⟨l, ys, i, k, y, e1, e2, h, z, h3, h4, q⟩ => ⟨l, ys, i, k, y, e1, e2, h, z.1, z.2, h3, h4, q.out⟩
def rClearK : V → List V → Hp → VK → Prop := fun x vs H Q => ∃ l xs, x = .ref l ∧ vs = [] ∧ H l = some (.lst xs) ∧ Put l (.lst []) H (Q .non)
theorem mt_clearK : MtR X "list.clear" rClearK := MtR.imp mt_clear fun x xs H Q ⟨l, ys, e1, e2, h, q⟩ => ⟨l, ys, e1, e2, h, q.out⟩
def rInsK : V → List V → Hp → VK → Prop := fun x vs H Q => ∃ l xs i y, x = .ref l ∧ vs = [.int i, y] ∧ H l = some (.lst xs) ∧ xs.length < sizeLine ∧ (0 ≤ i ∧ i < 2 ^ 63) ∧ Put l (.lst (xs.take i.toNat ++ [y] ++ xs.drop i.toNat)) H (Q .non)
theorem mt_insertK : MtR X "list.insert" rInsK := MtR.imp mt_insert fun x xs H Q ⟨l, ys, i, y, e1, e2, h, z, hi, q⟩ => ⟨l, ys, i, y, e1, e2, h, z, hi.1, hi.2, q.out⟩
def rSetK : V → V → V → Hp → (Hp → Prop) → Prop := fun o i v H Q => ∃ p xs k j, o = .ref p ∧ i = .int k ∧ H p = some (.lst xs) ∧ ixN xs.length k = some j ∧ Put p (.lst (xs.set j v)) H Q
theorem set_listK : PSet X rSetK := fun pins s σ H o i v ov iv u Q I ro ri rv ⟨p, xs, k, j, e1, e2, h, z, q⟩ => set_list pins s σ H o i v ov iv u Q I ro ri rv ⟨p, xs, k, j, e1, e2, h, z, q.out⟩
def rListK (K : PySem.W.Frag) : List V → Hp → VK → Prop := fun xs H Q => ∃ p ys, xs = [.ref p] ∧ (SqL K H p ys ∨ SqT K H p ys) ∧ New (.lst ys) H Q
theorem call_listK : CallR X (.type "list") (rListK X.K) := CallR.imp call_list_of fun xs H Q ⟨p, ys, e, h, q⟩ => ⟨p, ys, e, h, q.out⟩
def rDictDK : List V → Hp → VK → Prop := fun xs H Q => ∃ (a : Addr) (kvs : List (Key × V)), xs = [.ref a] ∧ H a = some (.dK kvs) ∧ New (.dK kvs) H Q
theorem call_dictDK : CallR X (.type "dict") rDictDK := CallR.imp call_dictD fun xs H Q ⟨a, kvs, e, h, q⟩ => ⟨a, kvs, e, .inl h, q.out⟩
def rListDK : List V → Hp → VK → Prop := fun xs H Q => ∃ (a : Addr) (kvs : List (Key × V)), xs = [.ref a] ∧ H a = some (.dK kvs) ∧ New (.lst (kvs.map fun kv => kV kv.1)) H Q
theorem call_listDK (hc : X.calm = true) : CallR X (.type "list") rListDK := CallR.imp (call_listD hc) fun xs H Q ⟨a, kvs, e, h, q⟩ => ⟨a, kvs, e, .inl h, q.out⟩
def rSlTK (K : PySem.W.Frag) : V → Option Int → Option Int → Hp → VK → Prop := fun x lo hi H Q => ∃ a xs, x = .ref a ∧ SqT K H a xs ∧ (cutV xs lo hi).length ≠ xs.length ∧ New (.tup (cutV xs lo hi)) H Q
def rDivK : List V → Hp → VK → Prop := fun xs H Q => ∃ i j, xs = [.int i, .int j] ∧ CDiv i j ∧ New (.tup [.int (i / j), .int (i % j)]) H Q
theorem call_divmodK : CallR X (.builtin "divmod") rDivK := CallR.imp call_divmod fun xs H Q ⟨i, j, e, h, q⟩ => ⟨i, j, e, h, q.out⟩
def rSplitK : V → List V → Hp → VK → Prop := fun x xs H Q => ∃ a b, x = .str a ∧ xs = [.str b] ∧ (b.length == 0) = false ∧ a.length + 2 ≤ sizeLine ∧ New (.lst ((Txt.split a b).map V.str)) H Q
theorem mt_splitK : MtR X "str.split" rSplitK := MtR.imp mt_split fun x xs H Q ⟨a, b, e1, e2, h1, h2, q⟩ => ⟨a, b, e1, e2, h1, h2, q.out⟩
/-- d[k] = v, the keys tuples -/
def sDPutTK (td ty tv : TE) : TS := fun D σ H => tv σ H fun v H1 => td σ H1 fun x H2 => ty σ H2 fun y H3 => ∃ a b kvs k, x = .ref a ∧ y = .ref b ∧ H3 a = some (.dT kvs) ∧ H3 b = some (.tup (k.map kV)) ∧ kvs.length < sizeLine ∧ Put a (.dT (putK kvs k v)) H3 (D.nx σ)
theorem ps_dputTK {o i value : Expr} {td ty tv : TE} {pos' : Pos} (hu : X.A.units + 1 < cLine) (ho : PE X o td) (hi : PE X i ty) (hv : PE X value tv) (hs : swapsWith value (some (.Subscript o i pos')) pos.line X.env = pure false) :
    PS X (.Assign [.Subscript o i pos'] value pos) (sDPutTK td ty tv) := by
  refine (ps_dput hu ho.up hi.up hv.up hs).imp fun D σ H q => ?_
  refine ⟨_, q, fun v H1 q1 => ⟨_, q1, fun x H2 q2 => ⟨_, q2, fun y H3 q3 => ?_⟩⟩⟩
  obtain ⟨a, b, kvs, k, e1, e2, h1, h2, z, r⟩ := q3
  exact ⟨a, _, e1, by rw [e2]; exact DPut.t h1 h2 z, r.out⟩
def sDPutKK (td ty tv : TE) : TS := fun D σ H => tv σ H fun v H1 => td σ H1 fun x H2 => ty σ H2 fun y H3 => ∃ a kvs k, x = .ref a ∧ y = kV k ∧ H3 a = some (.dK kvs) ∧ kvs.length < sizeLine ∧ Put a (.dK (putK kvs k v)) H3 (D.nx σ)
theorem ps_dputKK {o i value : Expr} {td ty tv : TE} {pos' : Pos} (hu : X.A.units + 1 < cLine) (ho : PE X o td) (hi : PE X i ty) (hv : PE X value tv) (hs : swapsWith value (some (.Subscript o i pos')) pos.line X.env = pure false) :
    PS X (.Assign [.Subscript o i pos'] value pos) (sDPutKK td ty tv) := by
  refine (ps_dput hu ho.up hi.up hv.up hs).imp fun D σ H q => ?_
  refine ⟨_, q, fun v H1 q1 => ⟨_, q1, fun x H2 q2 => ⟨_, q2, fun y H3 q3 => ?_⟩⟩⟩
  obtain ⟨a, kvs, k, e1, e2, h1, z, r⟩ := q3
  exact ⟨a, _, e1, by rw [e2]; exact DPut.k h1 z, r.out⟩
def sFldK (K : PySem.W.Frag) (ta tv : TE) (f : Str) : TS := fun D σ H => tv σ H fun y H1 => ta σ H1 fun x H2 => ∃ a C dx fs, x = .ref a ∧ H2 a = some (.ins C dx fs) ∧ Cls K C ∧ NoAttr K C f ∧ fs.length < 1000 ∧ ∃ fs', putF f y fs = fs' ∧ Put a (.ins C dx fs') H2 (D.nx σ)
theorem ps_fldK {o value : Expr} {ta tv : TE} {f : Str} {pos' : Pos} (ha : PE X o ta) (hv : PE X value tv) (hs : swapsWith value (some (.Attribute o f pos')) pos.line X.env = pure false) : PS X (.Assign [.Attribute o f pos'] value pos) (sFldK X.K ta tv f) := by
  refine (ps_fld ha.up hv.up hs).imp fun D σ H q => ?_
  refine ⟨_, q, fun y H1 q1 => ⟨_, q1, fun x H2 q2 => ?_⟩⟩
  obtain ⟨a, C, dx, fs, e1, h1, c, n, z, fs', e2, r⟩ := q2
  exact ⟨a, C, dx, fs, e1, h1, c, n, z, by rw [e2]; exact r.out⟩
def tMakeK (C : Addr) (sp : Sp) (dvs : List V) (E : XK) (t : TA) : TE := fun σ H Q => t σ H fun vs H1 => ∀ (x dx : Addr) (H2 : Hp), Fr H1 x → Same H1 H2 → H2 x = some (.ins C dx []) →
  sp (.ref x :: (vs ++ dvs)) H2 (fun v H3 => v = .non ∧ Q (.ref x) H3) E
theorem tMakeK.out {C : Addr} {sp : Sp} {dvs : List V} {E : XK} {t : TA} {σ : St} {H : Hp} {Q : VK} (q : tMakeK C sp dvs E t σ H Q) : tMake C sp dvs E (upA t) σ H Q := by
  refine ⟨_, q, fun vs H1 r x dx hx hdx ne => r x dx _ hx ?_ upd_same⟩
  exact ((Same.refl H1).new hdx).new (by rw [upd_ne ne.symm]; exact hx)
theorem pe_makeK {CX : CXT} {k : Nat} {C f : Addr} {fd : FuncData} {ps : List Str} {sp : Sp} {x : Str} {p : Pos} {ds : List Value} {dvs : List V} {E : XK} {e : Expr} {es : List Expr} {t : TA} (M : Mk X.K C f) (F : FnOk X.prog X.w X.K X.mg X.base CX k f fd ps sp) (hr : Room (k + 1) X.A) (hg : Gl X x) (hm : X.mg x = some (.ref C)) (hb : Binds X.K fd ps ds) (hd : Vals dvs ds) (hx : Passes CX X E)
    (ha : PA X (e :: es) t) (hdb : (x == ("__debug__" : Str)) = false := by decide) (he : starEach (e :: es) X.env = (false, eval e X.env) :: starEach es X.env := by rfl) (hpl : (backTo pos (starEach es X.env)).any (·.1) = false := by rfl) :
    PE X (.Call (.Name x p) (e :: es) [] pos) (tMakeK C sp dvs E t) := (pe_make M F hr hg hm hb hd hx ha.up hdb he hpl).imp fun σ H Q q => q.out
theorem pe_make0K {CX : CXT} {k : Nat} {C f : Addr} {fd : FuncData} {ps : List Str} {sp : Sp} {x : Str} {p : Pos} {ds : List Value} {dvs : List V} {E : XK} (M : Mk X.K C f) (F : FnOk X.prog X.w X.K X.mg X.base CX k f fd ps sp) (hr : Room (k + 1) X.A) (hg : Gl X x) (hm : X.mg x = some (.ref C)) (hb : Binds X.K fd ps ds) (hd : Vals dvs ds) (hx : Passes CX X E)
    (hdb : (x == ("__debug__" : Str)) = false := by decide) : PE X (.Call (.Name x p) [] [] pos) (tMakeK C sp dvs E tNil) := (pe_make0 M F hr hg hm hb hd hx hdb).imp fun σ H Q q x dx hx hdx ne => q x dx _ hx (((Same.refl H).new hdx).new (by rw [upd_ne ne.symm]; exact hx)) upd_same
end
/-! ### loops and comprehensions over them -/
section
variable {K : PySem.W.Frag} {a : Addr} {xs : List V} {g : TG} {tt : TT} {te : TE} {vs : List Nat} {σ : St} {H1 : Hp} {D : Addr} {Qd : Hp → Prop}
/-- one turn of a comprehension -/
def LcTurn (σ : St) (vs : List Nat) (g : TG) (tt : TT) (te : TE) (D : Addr) (x : V) (H : Hp) (P : Hp → Prop) : Prop :=
  g x (wipe σ vs) H fun σ2 H2 => wipe σ2 vs = wipe σ vs ∧ tt σ2 H2 fun b H3 => if b = true then te σ2 H3 fun y H4 => ∃ acc, H4 D = some (.lst acc) ∧ acc.length < sizeLine ∧ Put D (.lst (acc ++ [y])) H4 P else P H3
theorem LcTurn.out {x : V} {H : Hp} {P : Hp → Prop} (h : LcTurn σ vs g tt te D x H P) : upG g x (wipe σ vs) H fun σ2 H2 => wipe σ2 vs = wipe σ vs ∧ upT tt σ2 H2 fun b H3 =>
    if b = true then upE te σ2 H3 fun y H4 => ∃ acc, H4 D = some (.lst acc) ∧ acc.length < sizeLine ∧ P (upd H4 D (.lst (acc ++ [y]))) else P H3 := by
  refine ⟨_, h, fun σ2 H2 ⟨w, q⟩ => ⟨w, _, q, fun b H3 r => ?_⟩⟩
  cases b with
  | true =>
    rw [if_pos rfl] at r ⊢
    exact ⟨_, r, fun y H4 ⟨acc, h1, h2, h3⟩ => ⟨acc, h1, h2, h3.out⟩⟩
  | false =>
    rw [if_neg Bool.false_ne_true] at r ⊢
    exact r
theorem lcK_list (hD : H1 D = none) (Pv : Nat → Hp → Prop) (h0 : ∀ H', Fr H1 D → Same H1 H' → H' D = some (.lst []) → Pv 0 H') (hl : ∀ i H, i ≤ xs.length → Pv i H → SqL K H a xs) (hs : ∀ i x H, xs[i]? = some x → Pv i H → LcTurn σ vs g tt te D x H (Pv (i + 1))) (hd : ∀ H, Pv xs.length H → Qd H) :
    ∃ W : Nat → Nat → Hp → Prop, (∃ m, W 0 m (upd H1 D (.lst []))) ∧ ∀ i m H, W i m H →
      ((Itl K a).stop i H ∧ Qd H) ∨ ((Itl K a).go i H ∧ ∃ Nx : Hp → Prop, (∀ H', Nx H' → ∃ m', m' < m ∧ W (i + 1) m' H') ∧ ∀ x H', (Itl K a).yld i H x H' → upG g x (wipe σ vs) H' fun σ2 H2 => wipe σ2 vs = wipe σ vs ∧ upT tt σ2 H2 fun b H3 =>
        if b = true then upE te σ2 H3 fun y H4 => ∃ acc, H4 D = some (.lst acc) ∧ acc.length < sizeLine ∧ Nx (upd H4 D (.lst (acc ++ [y]))) else Nx H3) :=
  lc_list Pv (h0 _ hD ((Same.refl H1).new hD) upd_same) hl (fun i x H hx p => (hs i x H hx p).out) hd
theorem lcK_tup (hD : H1 D = none) (Pv : Nat → Hp → Prop) (h0 : ∀ H', Fr H1 D → Same H1 H' → H' D = some (.lst []) → Pv 0 H') (hl : ∀ i H, i ≤ xs.length → Pv i H → SqT K H a xs) (hs : ∀ i x H, xs[i]? = some x → Pv i H → LcTurn σ vs g tt te D x H (Pv (i + 1))) (hd : ∀ H, Pv xs.length H → Qd H) :
    ∃ W : Nat → Nat → Hp → Prop, (∃ m, W 0 m (upd H1 D (.lst []))) ∧ ∀ i m H, W i m H →
      ((Itt K a).stop i H ∧ Qd H) ∨ ((Itt K a).go i H ∧ ∃ Nx : Hp → Prop, (∀ H', Nx H' → ∃ m', m' < m ∧ W (i + 1) m' H') ∧ ∀ x H', (Itt K a).yld i H x H' → upG g x (wipe σ vs) H' fun σ2 H2 => wipe σ2 vs = wipe σ vs ∧ upT tt σ2 H2 fun b H3 =>
        if b = true then upE te σ2 H3 fun y H4 => ∃ acc, H4 D = some (.lst acc) ∧ acc.length < sizeLine ∧ Nx (upd H4 D (.lst (acc ++ [y]))) else Nx H3) :=
  lc_tup Pv (h0 _ hD ((Same.refl H1).new hD) upd_same) hl (fun i x H hx p => (hs i x H hx p).out) hd
theorem lcK_range {lo : Int} {n : Nat} (hD : H1 D = none) (Pv : Nat → Hp → Prop) (h0 : ∀ H', Fr H1 D → Same H1 H' → H' D = some (.lst []) → Pv 0 H') (hs : ∀ i H, i < n → Pv i H → LcTurn σ vs g tt te D (.int (lo + i)) H (Pv (i + 1))) (hd : ∀ H, Pv n H → Qd H) :
    ∃ W : Nat → Nat → Hp → Prop, (∃ m, W 0 m (upd H1 D (.lst []))) ∧ ∀ i m H, W i m H →
      ((Itr lo n).stop i H ∧ Qd H) ∨ ((Itr lo n).go i H ∧ ∃ Nx : Hp → Prop, (∀ H', Nx H' → ∃ m', m' < m ∧ W (i + 1) m' H') ∧ ∀ x H', (Itr lo n).yld i H x H' → upG g x (wipe σ vs) H' fun σ2 H2 => wipe σ2 vs = wipe σ vs ∧ upT tt σ2 H2 fun b H3 =>
        if b = true then upE te σ2 H3 fun y H4 => ∃ acc, H4 D = some (.lst acc) ∧ acc.length < sizeLine ∧ Nx (upd H4 D (.lst (acc ++ [y]))) else Nx H3) :=
  lc_range Pv (h0 _ hD ((Same.refl H1).new hD) upd_same) (fun i H hx p => (hs i H hx p).out) hd
/-- a new pair is unpacked into two names -/
theorem gTup2 {x y : V} {T : Addr} {t : TGs} {H : Hp} {Q : St → Hp → Prop} (hT : H T = none) (h : ∀ H', Same H H' → t [x, y] σ H' Q) : gTup K 2 t (.ref T) σ (upd H T (.tup [x, y])) Q :=
  ⟨T, _, rfl, .of upd_same, rfl, h _ ((Same.refl H).new hT)⟩
end
theorem ins_ne {C C' d d' : Addr} {fs gs : List (Str × V)} (h : fs.length ≠ gs.length) : HO.ins C d fs ≠ HO.ins C' d' gs := fun e => h (by
  injection e with _ _ e
  rw [e])
theorem lkE {a b : Str} {v : V} {r : List (Str × V)} (h : (b == a) = true) : ((a, v) :: r).lookup b = some v := by
  rw [List.lookup_cons, h]
theorem lkN {a b : Str} {v : V} {r : List (Str × V)} {o : Option V} (h : (b == a) = false) (q : r.lookup b = o) : ((a, v) :: r).lookup b = o := by
  rw [List.lookup_cons, h]
  exact q
theorem pfNil {f : Str} {v : V} : putF f v [] = [(f, v)] := rfl
theorem pfE {f g : Str} {v x : V} {r : List (Str × V)} (h : g = f) : putF f v ((g, x) :: r) = (g, v) :: r := if_pos h
theorem pfN {f g : Str} {v x : V} {r r' : List (Str × V)} (h : g ≠ f) (q : putF f v r = r') : putF f v ((g, x) :: r) = (g, x) :: r' := by
  rw [← q]
  exact if_neg h
theorem upd_self {H : Hp} {a : Addr} {o : HO} (h : H a = some o) : upd H a o = H := by
  funext b
  by_cases e : b = a
  · rw [e, upd_same, h]
  · rw [upd_ne e]
/-- a loop whose walk has nothing to give -/
theorem for_none {J : It} {g : TG} {tb : TS} {D : Ends} {σ : St} {H : Hp} (h : J.stop 0 H) (q : D.nx σ H) : ∃ W : Nat → Nat → St → Hp → Prop, (∃ m, W 0 m σ H) ∧ ∀ i m σ H, W i m σ H →
    (J.stop i H ∧ D.nx σ H) ∨ (J.go i H ∧ ∃ N : St → Hp → Prop, (∀ σ' H', N σ' H' → ∃ m', m' < m ∧ W (i + 1) m' σ' H') ∧ ∀ x H', J.yld i H x H' → g x σ H' fun σ2 H2 => tb { D with nx := N, ct := N, bk := D.nx } σ2 H2) := by
  refine ⟨fun i _ σ' H' => i = 0 ∧ σ' = σ ∧ H' = H, ⟨0, rfl, rfl, rfl⟩, ?_⟩
  rintro i m σ' H' ⟨rfl, rfl, rfl⟩
  exact .inl ⟨h, q⟩
theorem lc_none {J : It} {g : TG} {tt : TT} {te : TE} {vs : List Nat} {σ : St} {H1 : Hp} {D : Addr} {Qd : Hp → Prop} (h : J.stop 0 (upd H1 D (.lst []))) (q : Qd (upd H1 D (.lst []))) :
    ∃ W : Nat → Nat → Hp → Prop, (∃ m, W 0 m (upd H1 D (.lst []))) ∧ ∀ i m H, W i m H →
      (J.stop i H ∧ Qd H) ∨ (J.go i H ∧ ∃ Nx : Hp → Prop, (∀ H', Nx H' → ∃ m', m' < m ∧ W (i + 1) m' H') ∧ ∀ x H', J.yld i H x H' → g x (wipe σ vs) H' fun σ2 H2 => wipe σ2 vs = wipe σ vs ∧ tt σ2 H2 fun b H3 =>
        if b = true then te σ2 H3 fun y H4 => ∃ acc, H4 D = some (.lst acc) ∧ acc.length < sizeLine ∧ Nx (upd H4 D (.lst (acc ++ [y]))) else Nx H3) := by
  refine ⟨fun i _ H' => i = 0 ∧ H' = upd H1 D (.lst []), ⟨0, rfl, rfl⟩, ?_⟩
  rintro i m H' ⟨rfl, rfl⟩
  exact .inl ⟨h, q⟩
/-- an empty dict walked by its keys, under its lock -/
theorem lock_keys0 {td : TE} {g : TG} {tb : TS} {D : Ends} {σ : St} {H : Hp} {d : Addr} (hd : H d = some (.dK [])) (hv : ∀ od Q, Q (.ref d) (upd H d (.frz od (.dK []))) → td σ (upd H d (.frz od (.dK []))) Q) (q : D.nx σ H) : tLock (tFor (iKeys td) g tb) D σ H := by
  refine ⟨d, _, hd, trivial, fun od => hv od _ ⟨d, od, rfl, .inl ⟨[], upd_same, ?_⟩⟩⟩
  refine for_none ⟨upd_same, Nat.le_refl _⟩ ⟨upd_same, ?_⟩
  rw [upd_upd, upd_self hd]
  exact q
theorem lock_vals0 {td : TE} {g : TG} {tb : TS} {D : Ends} {σ : St} {H : Hp} {d : Addr} (hd : H d = some (.dK [])) (hv : ∀ od Q, Q (.ref d) (upd H d (.frz od (.dK []))) → td σ (upd H d (.frz od (.dK []))) Q) (q : D.nx σ H) : tLock (tFor (iVals td) g tb) D σ H := by
  refine ⟨d, _, hd, trivial, fun od => hv od _ ⟨d, od, [], rfl, upd_same, ?_⟩⟩
  refine for_none ⟨upd_same, Nat.le_refl _⟩ ⟨upd_same, ?_⟩
  rw [upd_upd, upd_self hd]
  exact q
theorem lock_lc0 {td te : TE} {g : TG} {tt : TT} {vs : List Nat} {σ : St} {H : Hp} {d : Addr} {Q : VK} (hd : H d = some (.dK [])) (hv : ∀ od Q, Q (.ref d) (upd H d (.frz od (.dK []))) → td σ (upd H d (.frz od (.dK []))) Q) (q : New (.lst []) H Q) : tLockE (tLc (iKeys td) g tt te vs) σ H Q := by
  refine ⟨d, _, hd, trivial, fun od => hv od _ ⟨d, od, rfl, .inl ⟨[], upd_same, fun D hD => ?_⟩⟩⟩
  have nd : D ≠ d := (ne_of_none upd_same hD).symm
  have hD0 : H D = none := by
    rw [upd_ne nd] at hD
    exact hD
  refine lc_none ⟨by rw [upd_ne nd.symm]; exact upd_same, Nat.le_refl _⟩ ⟨by rw [upd_ne nd.symm]; exact upd_same, ?_⟩
  have e : upd (upd (upd H d (.frz od (.dK []))) D (.lst [])) d (.dK []) = upd H D (.lst []) := by
    funext b
    by_cases e1 : b = d
    · rw [e1, upd_same, upd_ne nd.symm, hd]
    · rw [upd_ne e1]
      by_cases e2 : b = D
      · rw [e2, upd_same, upd_same]
      · rw [upd_ne e2, upd_ne e2, upd_ne e1]
  rw [e]
  exact q.out D hD0
theorem PT.up {X : Cx} {e : Expr} {t : TT} (h : PT X e t) : PT X e (upT t) := ⟨fun pins s σ H Q I ⟨R, r, k⟩ => thn (h.run pins s σ H R I r) fun b s1 ⟨H1, I1, q⟩ => ⟨H1, I1, k b H1 q⟩⟩
/-- a while, its turns counted down by W's number -/
theorem whileN {c : TT} {tb : TS} {D : Ends} {σ : St} {H : Hp} (W : Nat → St → Hp → Prop) (m0 : Nat) (h0 : W m0 σ H)
    (hs : ∀ m σ H, W m σ H → c σ H fun b H1 => if b = true then tb { D with nx := fun σ' H' => ∃ m', m' < m ∧ W m' σ' H', ct := fun σ' H' => ∃ m', m' < m ∧ W m' σ' H', bk := D.nx } σ H1 else D.nx σ H1) : tWhile (upT c) tb D σ H := by
  refine ⟨W, ⟨m0, h0⟩, fun m σ H w => ⟨_, hs m σ H w, fun b H1 q => ?_⟩⟩
  cases b with
  | true =>
    rw [if_pos rfl] at q ⊢
    exact ⟨_, fun σ' H' h => h, q⟩
  | false =>
    rw [if_neg Bool.false_ne_true] at q ⊢
    exact q
theorem PE.or {X : Cx} {e : Expr} {t u : TE} (h1 : PE X e t) (h2 : PE X e u) : PE X e (fun σ H Q => t σ H Q ∨ u σ H Q) := ⟨fun pins s σ H Q I q => q.elim (h1.run pins s σ H Q I) (h2.run pins s σ H Q I)⟩
theorem szlt {n : Nat} (h : n ≤ 100000) : n < sizeLine := Nat.lt_of_le_of_lt h (by decide)
section
variable {X : Cx} {CX : CXT} {k : Nat} {f : Addr} {fd : FuncData} {ps : List Str} {sp : Sp} {E : St → XK} {x : Str} {p pos : Pos} {e : Expr} {es : List Expr} {t : TA} {ds : List Value} {dvs : List V}
/-- a call in a try, the last parameters left out -/
theorem run_fnSd {pins : List (Addr × Obj)} {σ : St} {H : Hp} {s : Shared} {Q : VK} {us : List Value} {vs : List V} (F : FnOk X.prog X.w X.K X.mg X.base CX k f fd ps sp) (hr : Room k X.A) (hb : Binds X.K fd ps ds) (hd : Vals dvs ds) (hx : PassesAt CX X σ (E σ))
    (I : Inv X pins σ H s) (r : Vals vs us) (h : sp (vs ++ dvs) H Q (E σ)) : wpAny (model X.prog X.w) X.A (call (.ref f) us) (EP X pins σ Q) X.xe s := by
  have hl : us.length + ds.length = ps.length := by
    rw [← r.length, ← hd.length, ← List.length_append]
    exact F.len _ _ _ _ h
  refine wpAny_call (codeAny_mono (F.run X.A X.stack s H ⟨us, []⟩ (us ++ ds) (vs ++ dvs) Q (E σ) hr I.env0 (hb s us I.kIn (by first | exact hl | (rw [List.length_append]; exact hl))) (r.append hd) h) fun r s' hq => ?_)
  cases r with
  | error e => exact hx pins H s e s' I hq
  | ok fl =>
    cases fl with
    | ret u => exact I.after hq
    | next => exact False.elim hq
    | brk => exact False.elim hq
    | cont => exact False.elim hq
def tCallSd (sp : Sp) (dvs : List V) (E : St → XK) (t : TA) : TE := fun σ H Q => t σ H fun vs H1 => sp (vs ++ dvs) H1 Q (E σ)
theorem pe_callSd (F : FnOk X.prog X.w X.K X.mg X.base CX k f fd ps sp) (hr : Room k X.A) (hg : Gl X x) (hm : X.mg x = some (.ref f)) (hk : PySem.W.keepIn X.K (.ref f) = true) (hb : Binds X.K fd ps ds) (hd : Vals dvs ds) (hx : ∀ σ, PassesAt CX X σ (E σ))
    (ha : PA X (e :: es) t) (hdb : (x == ("__debug__" : Str)) = false := by decide) (he : starEach (e :: es) X.env = (false, eval e X.env) :: starEach es X.env := by rfl) (hpl : (backTo pos (starEach es X.env)).any (·.1) = false := by rfl) :
    PE X (.Call (.Name x p) (e :: es) [] pos) (tCallSd sp dvs E t) := by
  refine ⟨fun pins s σ H Q I h => ?_⟩
  refine wpAny_Call_Name_kw (ld_glob I hg hm ?_ hdb)
  refine PySem.W.callWith_K (h₀ := X.base) I.ok.mod.kin hk (thn (ha.run pos pins s σ H _ I h) fun us s1 ⟨vs, H1, I1, r, q⟩ => ⟨I1.kIn, ?_⟩) he hpl
  exact run_fnSd F hr hb hd (hx σ) I1 r q
def rCatTK (K : PySem.W.Frag) : R2 := fun x y H Q => ∃ a b xs ys, x = .ref a ∧ y = .ref b ∧ SqT K H a xs ∧ SqT K H b ys ∧ xs ≠ [] ∧ ys ≠ [] ∧ xs.length + ys.length ≤ sizeLine ∧ New (.tup (xs ++ ys)) H Q
theorem op_catTK : OpR X (binaryOp .Add) (rCatTK X.K) := OpR.imp op_catT fun x y H Q ⟨a, b, xs, ys, e1, e2, h1, h2, n1, n2, z, q⟩ => ⟨a, b, xs, ys, e1, e2, h1, h2, n1, z, fun e => absurd e n2, fun _ => q.out⟩
def rTupK (K : PySem.W.Frag) : List V → Hp → VK → Prop := fun xs H Q => ∃ p ys, xs = [.ref p] ∧ SqL K H p ys ∧ New (.tup ys) H Q
theorem call_tupleK : CallR X (.type "tuple") (rTupK X.K) := CallR.imp call_tuple_of fun xs H Q ⟨p, ys, e, h, q⟩ => ⟨p, ys, e, .inl ⟨h, q.out⟩⟩
end
end L2
/-! ### C() of a class that has no __init__ of its own -/
namespace L2
open PySem PySem.Spec PyProof.Rows
/-- what the class at C must say -/
structure MkO (K : PySem.W.Frag) (C : Addr) : Prop where
  makes : PySem.W.makesIn K C = true
  init : PySem.W.findIn K (.ref C) "__init__" = some (some (.builtin "object.__init__"))
  kp : PySem.W.keepIn K (.ref C) = true
  ob : PySem.W.subIn K (.ref C) (.type "object") = some true
def mkOB (K : PySem.W.Frag) (x : Str) : Bool := PySem.W.makesIn K (He.ga K x) && (decide (PySem.W.findIn K (.ref (He.ga K x)) "__init__" = some (some (.builtin "object.__init__"))) && (PySem.W.keepIn K (.ref (He.ga K x)) && decide (PySem.W.subIn K (.ref (He.ga K x)) (.type "object") = some true)))
theorem mkOB_ok {K : PySem.W.Frag} {x : Str} (h : mkOB K x = true) : MkO K (He.ga K x) := by
  obtain ⟨h1, h⟩ := He.ba h
  obtain ⟨h2, h⟩ := He.ba h
  obtain ⟨h3, h4⟩ := He.ba h
  exact ⟨h1, of_decide_eq_true h2, h3, of_decide_eq_true h4⟩
def insB (K : PySem.W.Frag) (x : Str) : Bool := decide (PySem.W.findIn K (.ref (He.ga K x)) "__class__" = some (some (.builtin "object.__class__"))) && (decide (PySem.W.specialIn K (.builtin "object.__class__") "__get__" = some (some (.builtin "getset_descriptor.__get__"))) &&
  (decide (PySem.W.takesIn K (.builtin "object.__class__") = some true) && (decide (PySem.W.mroIn K (He.ga K x) (.type "object") = some true) && decide (PySem.W.kitOne K (.ref (He.ga K x)) (.ref (He.ga K x)) = some true))))
theorem insB_ok {K : PySem.W.Frag} {x : Str} (c : Cls K (He.ga K x)) (h : insB K x = true) : C8.InsC K (He.ga K x) := by
  obtain ⟨h1, h⟩ := He.ba h
  obtain ⟨h2, h⟩ := He.ba h
  obtain ⟨h3, h⟩ := He.ba h
  obtain ⟨h4, h5⟩ := He.ba h
  exact ⟨c, of_decide_eq_true h1, of_decide_eq_true h2, of_decide_eq_true h3, of_decide_eq_true h4, of_decide_eq_true h5⟩
def tMakeO (C : Addr) : TE := fun _ H Q => ∀ (x dx : Addr) (H2 : Hp), Fr H x → Same H H2 → H2 x = some (.ins C dx []) → Q (.ref x) H2
section
variable {X : Cx} {x : Str} {C : Addr} {p pos : Pos}
theorem pe_makeO (M : MkO X.K C) (hg : Gl X x) (hm : X.mg x = some (.ref C)) (hdb : (x == ("__debug__" : Str)) = false := by decide) : PE X (.Call (.Name x p) [] [] pos) (tMakeO C) := by
  constructor
  intro pins s σ H Q I h
  apply wpAny_Call_Name_kw
  apply ld_glob I hg hm _ hdb
  apply PySem.W.callWith_K0 I.kIn M.kp
  have I2 := Inv.made (C := C) I
  have nx : H (s.heap.objs.size + 1) = none := I.hok.fresh (Nat.le_succ _)
  have nd : H s.heap.objs.size = none := I.hok.fresh (Nat.le_refl _)
  have q := h (s.heap.objs.size + 1) s.heap.objs.size _ nx (((Same.refl H).new (o := HO.own (s.heap.objs.size + 1)) nd).new (by rw [upd_ne (Nat.ne_of_gt (Nat.lt_succ_self _))]; exact nx)) upd_same
  refine wpAny_call (make_map0 I.kIn M.makes M.init (fun self => PySem.W.Looks.of_pure (PySem.W.oi_bind self)) ?_)
  have L : PySem.W.Looks (model X.prog X.w) ((s.heap.push PySem.W.emptyDict).push (PySem.W.instObj C s.heap.objs.size)) (isInstance (.ref (s.heap.objs.size + 1)) (.type "object")) true := by
    obtain ⟨_, _, _, e, _⟩ := (show ObjOk X.prog X.w _ _ _ (.ins C s.heap.objs.size []) from I2.hok _ _ upd_same)
    have T : PySem.W.Looks (model X.prog X.w) ((s.heap.push PySem.W.emptyDict).push (PySem.W.instObj C s.heap.objs.size)) (typeOf (.ref (s.heap.objs.size + 1))) (.ref C) := fun A Q E s k q => wpAny_typeOf_ref (k _ _ e) q
    exact T.andThen (PySem.W.looks_subIn I2.kIn M.ob)
  refine codeAny_call_builtin (by decide +kernel) PySem.F.entry_object_init ?_
  refine PySem.W.check_slot (i := "object.__init__") (owner := "object") (n := "__init__") (rest := []) (by decide +kernel) (by decide +kernel) L (by unfold argsOk; kernel_rfl) ?_
  exact wpAny_pure ⟨rfl, ⟨.ref (s.heap.objs.size + 1), _, I2, rfl, q⟩⟩
end
end L2

/-! ### max and min of ints, with a default -/
namespace PySem.G94D
open PySem PySem.Spec PyProof.Rows
set_option maxRecDepth 100000

theorem mxloop {prog : Program} {w : World} {A : Around} {R : Result → Shared → Prop} {I : Addr} {fp wr : List Addr} {n : Nat} {P : Nat → Value → Prop} {St : Nat → Heap → Prop} (W : Walks prog w A.in1 I fp wr n P St) (val : Nat → Int) (hval : ∀ i v, P i v → ∃ t, v = .int (val i) t)
    (kw : List (Str × Value)) (S : Addr) (hS : S ∉ fp) : ∀ (k j : Nat) (s : Shared) (M : Int) (t : Tok) (c : Nat), n - j = k → j ≤ n → St j s.heap → (∀ i, i < j → val i ≤ M) → (∃ i, i < j ∧ val i = M) →
      s.heap.get? S = some { cls := .type "list", dict := none, data := .seq #[.int M t, .int M t] c, slots := #[] } →
      (∀ h' tk M t, (∀ i, i < n → val i ≤ M) → (∃ i, i < n ∧ val i = M) → (∀ b o, b ∉ wr → b ≠ S → s.heap.get? b = some o → h'.get? b = some o) → R (.ok (.ret (.int M t))) { s with heap := h', toks := tk }) →
      codeAny (model prog w) A (.builtin "max.loop" ⟨[.ref I, .none, .ref S], kw⟩) R s := by
  have nw : S ∉ wr := fun h => hS (W.sub _ h)
  have nm : (toString "max" ++ toString ".loop" : String) = "max.loop" := by decide
  intro k
  induction k with
  | zero =>
    intro j s M t c hk hj st all some_ at_ fin
    obtain rfl : j = n := by omega
    apply codeAny_builtin PySem.F.entry_max_loop
    rw [Around.under_plainId PySem.F.plain_max_loop _]
    show wpAny _ A.in1 (seqItems? (.ref S) >>= _) _ _ s
    apply wpAny_bind
    apply wpAny_seqItems at_ rfl
    show wpAny _ A.in1 (tryCatch (pyNext (.ref I)) _ >>= _) _ _ s
    refine wpAny_bind (wpAny_tryCatch (W.done s _ _ st fun h1 tk keep => ?_))
    show wpAny _ A.in1 (updateSeq S (fun _ => #[]) >>= _) _ _ _
    apply wpAny_bind
    refine wpAny_updateSeq (keep S _ nw at_) rfl (wpAny_bind (wpAny_letGo (wpAny_pure ?_)))
    exact fin _ tk M t all some_ fun b o h2 h3 e => (Heap.get?_update_other _ _ (Ne.symm h3)).trans (keep b o h2 e)
  | succ k ih =>
    intro j s M t c hk hj st all some_ at_ fin
    have lt : j < n := by omega
    apply codeAny_builtin PySem.F.entry_max_loop
    rw [Around.under_plainId PySem.F.plain_max_loop _]
    show wpAny _ A.in1 (seqItems? (.ref S) >>= _) _ _ s
    apply wpAny_bind
    apply wpAny_seqItems at_ rfl
    show wpAny _ A.in1 (tryCatch (pyNext (.ref I)) _ >>= _) _ _ s
    refine wpAny_bind (wpAny_tryCatch (W.item j s _ _ lt st fun v h1 tk pv st1 keep => ?_))
    obtain ⟨u, rfl⟩ := hval j v pv
    have at1 := keep S _ nw at_
    show wpAny _ A.in1 (tryCatch (holding [.int (val j) u, .int (val j) u] (richCompare .Gt (.int (val j) u) (.int M t) >>= _)) _ >>= _) _ _ _
    refine wpAny_bind (wpAny_tryCatch (wpAny_holding (wpAny_bind (richCompare_gives (op := .Gt) (typeIs_int _ _ u) (typeIs_int _ _ t) PySem.F.slot_int_gt PySem.F.entry_int_gt (PySem.F.args_int_gt_2 _ _) (gives_int_gt _ _ u t) (fun x => nomatch x) ?_))))
    refine wpAny_bind (wpAny_holding (wpAny_truthy_bool ?_))
    refine wpAny_bind (wpAny_letGo (wpAny_pure ?_))
    by_cases hb : M ≤ val j ∧ M ≠ val j
    · rw [show decide (val j > M) = true from decide_eq_true (by omega), if_pos rfl]
      apply wpAny_bind
      refine wpAny_updateSeq at1 rfl (wpAny_bind (wpAny_letGo ?_))
      rw [nm]
      refine wpAny_pure ⟨plainId_quiet PySem.F.plain_max_loop _, ih (j + 1) _ (val j) u _ (by omega) lt (W.frame _ _ _ st1 fun b hbf o e => ?_) (fun i hi => ?_) ⟨j, by omega, rfl⟩ (Heap.get?_update_self _ at1 rfl) fun h2 tk2 M2 t2 a2 s2 k2 => ?_⟩
      · exact (Heap.get?_update_other _ _ (fun h : S = b => hS (by rw [h]; exact hbf))).trans e
      · rcases Nat.lt_or_ge i j with h | h
        · have := all i h
          omega
        · obtain rfl : i = j := by omega
          exact Int.le_refl _
      · exact fin _ tk2 M2 t2 a2 s2 fun b o n1 n2 e => k2 b o n1 n2 ((Heap.get?_update_other _ _ (Ne.symm n2)).trans (keep b o n1 e))
    · rw [show decide (val j > M) = false from decide_eq_false (by omega), if_neg Bool.false_ne_true]
      refine wpAny_bind (wpAny_letGo ?_)
      rw [nm]
      obtain ⟨i0, h0, e0⟩ := some_
      refine wpAny_pure ⟨plainId_quiet PySem.F.plain_max_loop _, ih (j + 1) _ M t c (by omega) lt st1 (fun i hi => ?_) ⟨i0, by omega, e0⟩ at1 fun h2 tk2 M2 t2 a2 s2 k2 => fin _ tk2 M2 t2 a2 s2 fun b o n1 n2 e => k2 b o n1 n2 (keep b o n1 e)⟩
      rcases Nat.lt_or_ge i j with h | h
      · exact all i h
      · obtain rfl : i = j := by omega
        omega
theorem mxargs (a d : Value) : argsOk "max" ⟨[a], [(Str.ofString "default", d)]⟩ := by
  unfold argsOk
  kernel_rfl
theorem mxcall {prog : Program} {w : World} {A : Around} {E : Value → Shared → Prop} {s : Shared} {l : Addr} {xs : Array (Int × Tok)} {d : Value} {Q : Value → Shared → Prop} (hh : A.handled = none) (hl : s.heap.IsList l (intItems xs))
    (h0 : ∀ h' tk, xs.size = 0 → (∀ b o, s.heap.get? b = some o → h'.get? b = some o) → Q d { s with heap := h', toks := tk })
    (h1 : ∀ h' tk M t, (∀ i, i < xs.size → numAt xs i ≤ M) → (∃ i, i < xs.size ∧ numAt xs i = M) → (∀ b o, s.heap.get? b = some o → h'.get? b = some o) → Q (.int M t) { s with heap := h', toks := tk }) :
    wpAny (model prog w) A (call (.builtin "max") [.ref l] [("default", d)]) Q E s := by
  have nm : (toString "max" ++ toString ".loop" : String) = "max.loop" := by decide
  refine kmk_tree PySem.F.kind_max PySem.F.plain_max PySem.F.entry_max (mxargs _ _) ?_
  show wpAny _ A.in1 (Builtin.Builtins.bindParams "max" ["key", "default"] 0 ⟨[], [(Str.ofString "default", d)]⟩ >>= _) _ _ s
  refine wpAny_bind (wpAny_of_eq (show Builtin.Builtins.bindParams "max" ["key", "default"] 0 ⟨[], [(Str.ofString "default", d)]⟩ = pure [none, some d] by kernel_rfl) ?_)
  refine wpAny_bind (wpAny_pure ?_)
  refine wpAny_bind (iter_intList hl fun s2 e st hfp hlI => ?_)
  subst e
  refine wpAny_bind (wpAny_newObj_type ?_)
  have W := Walks.list (prog := prog) (w := w) (A := A.in1) hh s.heap.objs.size l hlI (intItems xs)
  have hsz : (intItems xs).size = xs.size := by simp [intItems]
  have kp : ∀ {h' : Heap} {o1 o2 : Obj}, (∀ b o, b ∉ [s.heap.objs.size] → b ≠ s.heap.objs.size + 1 → ((s.heap.push o1).push o2).get? b = some o → h'.get? b = some o) → ∀ b o, s.heap.get? b = some o → h'.get? b = some o := fun q b o e => by
    have lt := Heap.lt_size e
    refine q b o (fun hm => ?_) (Nat.ne_of_lt (Nat.lt_succ_of_lt lt)) (Heap.get?_push_of_some _ (Heap.get?_push_of_some _ e))
    rcases List.mem_cons.mp hm with e1 | hm
    · exact Nat.lt_irrefl _ (e1 ▸ lt)
    · cases hm
  generalize hS : (s.heap.push { cls := .type "list_iterator", data := .fields #[.ref l, .int 0 0] }).objs.size = S
  have eS : S = s.heap.objs.size + 1 := by rw [← hS, Heap.size_push]
  have hSf : S ∉ [s.heap.objs.size, l] := by
    intro hm
    have := hfp S hm
    have e2 : (s.heap.push { cls := .type "list_iterator", data := .fields #[.ref l, .int 0 0] }).objs.size = S := hS
    exact absurd (show S < _ from this) (by rw [e2]; exact Nat.lt_irrefl _)
  have st0 := W.frame 0 _ ((s.heap.push { cls := .type "list_iterator", data := .fields #[.ref l, .int 0 0] }).push { cls := .type "list", data := .seq #[] 0 }) st fun b _ o e => Heap.get?_push_of_some _ e
  have atS : ((s.heap.push { cls := .type "list_iterator", data := .fields #[.ref l, .int 0 0] }).push { cls := .type "list", data := .seq #[] 0 }).get? S = some { cls := .type "list", dict := none, data := .seq #[] 0, slots := #[] } := by
    rw [← hS]
    exact Heap.get?_push_size _ rfl
  have nw : S ∉ [s.heap.objs.size] := fun h => hSf (W.sub _ h)
  rw [nm]
  refine wpAny_pure ⟨plainId_quiet PySem.F.plain_max_loop _, ?_⟩
  apply codeAny_builtin PySem.F.entry_max_loop
  rw [Around.under_plainId PySem.F.plain_max_loop _]
  show wpAny _ A.in1 (seqItems? (.ref S) >>= _) _ _ _
  apply wpAny_bind
  apply wpAny_seqItems atS rfl
  show wpAny _ A.in1 (tryCatch (pyNext (.ref s.heap.objs.size)) _ >>= _) _ _ _
  rcases Nat.eq_zero_or_pos xs.size with hz | hz
  · refine wpAny_bind (wpAny_tryCatch (W.done _ _ _ (by rw [hsz, hz]; exact st0) fun h2 tk keep => ?_))
    refine wpAny_bind (wpAny_rule ?_)
    exact wpAny_pure (h0 _ tk hz (kp fun b o n1 _ e => keep b o n1 e))
  · refine wpAny_bind (wpAny_tryCatch (W.item 0 _ _ _ (by rw [hsz]; exact hz) st0 fun v h2 tk pv st1 keep => ?_))
    obtain ⟨u, rfl⟩ := intItems_at pv
    have at1 := keep S _ nw atS
    show wpAny _ A.in1 (updateSeq S (fun _ => #[.int (numAt xs 0) u, .int (numAt xs 0) u]) >>= _) _ _ _
    apply wpAny_bind
    refine wpAny_updateSeq at1 rfl ?_
    rw [nm]
    refine wpAny_pure ⟨plainId_quiet PySem.F.plain_max_loop _, mxloop W (numAt xs) (fun _ _ => intItems_at) _ S hSf _ 1 _ (numAt xs 0) u _ rfl (by rw [hsz]; exact hz) (W.frame _ _ _ st1 fun b hbf o e => ?_) (fun i hi => ?_) ⟨0, by omega, rfl⟩ (Heap.get?_update_self _ at1 rfl) fun h3 tk3 M t a3 s3 k3 => ?_⟩
    · exact (Heap.get?_update_other _ _ (fun h : S = b => hSf (by rw [h]; exact hbf))).trans e
    · obtain rfl : i = 0 := by omega
      exact Int.le_refl _
    · rw [hsz] at a3 s3
      exact h1 _ tk3 M t a3 s3 (kp fun b o n1 n2 e => k3 b o n1 (by rw [eS]; exact n2) ((Heap.get?_update_other _ _ (by rw [eS]; exact Ne.symm n2)).trans (keep b o n1 e)))

theorem mnloop {prog : Program} {w : World} {A : Around} {R : Result → Shared → Prop} {I : Addr} {fp wr : List Addr} {n : Nat} {P : Nat → Value → Prop} {St : Nat → Heap → Prop} (W : Walks prog w A.in1 I fp wr n P St) (val : Nat → Int) (hval : ∀ i v, P i v → ∃ t, v = .int (val i) t)
    (kw : List (Str × Value)) (S : Addr) (hS : S ∉ fp) : ∀ (k j : Nat) (s : Shared) (M : Int) (t : Tok) (c : Nat), n - j = k → j ≤ n → St j s.heap → (∀ i, i < j → M ≤ val i) → (∃ i, i < j ∧ val i = M) →
      s.heap.get? S = some { cls := .type "list", dict := none, data := .seq #[.int M t, .int M t] c, slots := #[] } →
      (∀ h' tk M t, (∀ i, i < n → M ≤ val i) → (∃ i, i < n ∧ val i = M) → (∀ b o, b ∉ wr → b ≠ S → s.heap.get? b = some o → h'.get? b = some o) → R (.ok (.ret (.int M t))) { s with heap := h', toks := tk }) →
      codeAny (model prog w) A (.builtin "min.loop" ⟨[.ref I, .none, .ref S], kw⟩) R s := by
  have nw : S ∉ wr := fun h => hS (W.sub _ h)
  have nm : (toString "min" ++ toString ".loop" : String) = "min.loop" := by decide
  intro k
  induction k with
  | zero =>
    intro j s M t c hk hj st all some_ at_ fin
    obtain rfl : j = n := by omega
    apply codeAny_builtin PySem.F.entry_min_loop
    rw [Around.under_plainId PySem.F.plain_min_loop _]
    show wpAny _ A.in1 (seqItems? (.ref S) >>= _) _ _ s
    apply wpAny_bind
    apply wpAny_seqItems at_ rfl
    show wpAny _ A.in1 (tryCatch (pyNext (.ref I)) _ >>= _) _ _ s
    refine wpAny_bind (wpAny_tryCatch (W.done s _ _ st fun h1 tk keep => ?_))
    show wpAny _ A.in1 (updateSeq S (fun _ => #[]) >>= _) _ _ _
    apply wpAny_bind
    refine wpAny_updateSeq (keep S _ nw at_) rfl (wpAny_bind (wpAny_letGo (wpAny_pure ?_)))
    exact fin _ tk M t all some_ fun b o h2 h3 e => (Heap.get?_update_other _ _ (Ne.symm h3)).trans (keep b o h2 e)
  | succ k ih =>
    intro j s M t c hk hj st all some_ at_ fin
    have lt : j < n := by omega
    apply codeAny_builtin PySem.F.entry_min_loop
    rw [Around.under_plainId PySem.F.plain_min_loop _]
    show wpAny _ A.in1 (seqItems? (.ref S) >>= _) _ _ s
    apply wpAny_bind
    apply wpAny_seqItems at_ rfl
    show wpAny _ A.in1 (tryCatch (pyNext (.ref I)) _ >>= _) _ _ s
    refine wpAny_bind (wpAny_tryCatch (W.item j s _ _ lt st fun v h1 tk pv st1 keep => ?_))
    obtain ⟨u, rfl⟩ := hval j v pv
    have at1 := keep S _ nw at_
    show wpAny _ A.in1 (tryCatch (holding [.int (val j) u, .int (val j) u] (richCompare .Lt (.int (val j) u) (.int M t) >>= _)) _ >>= _) _ _ _
    refine wpAny_bind (wpAny_tryCatch (wpAny_holding (wpAny_bind (richCompare_gives (op := .Lt) (typeIs_int _ _ u) (typeIs_int _ _ t) PySem.F.slot_int_lt PySem.F.entry_int_lt (PySem.F.args_int_lt_2 _ _) (gives_int_lt _ _ u t) (fun x => nomatch x) ?_))))
    refine wpAny_bind (wpAny_holding (wpAny_truthy_bool ?_))
    refine wpAny_bind (wpAny_letGo (wpAny_pure ?_))
    by_cases hb : val j ≤ M ∧ M ≠ val j
    · rw [show decide (val j < M) = true from decide_eq_true (by omega), if_pos rfl]
      apply wpAny_bind
      refine wpAny_updateSeq at1 rfl (wpAny_bind (wpAny_letGo ?_))
      rw [nm]
      refine wpAny_pure ⟨plainId_quiet PySem.F.plain_min_loop _, ih (j + 1) _ (val j) u _ (by omega) lt (W.frame _ _ _ st1 fun b hbf o e => ?_) (fun i hi => ?_) ⟨j, by omega, rfl⟩ (Heap.get?_update_self _ at1 rfl) fun h2 tk2 M2 t2 a2 s2 k2 => ?_⟩
      · exact (Heap.get?_update_other _ _ (fun h : S = b => hS (by rw [h]; exact hbf))).trans e
      · rcases Nat.lt_or_ge i j with h | h
        · have := all i h
          omega
        · obtain rfl : i = j := by omega
          exact Int.le_refl _
      · exact fin _ tk2 M2 t2 a2 s2 fun b o n1 n2 e => k2 b o n1 n2 ((Heap.get?_update_other _ _ (Ne.symm n2)).trans (keep b o n1 e))
    · rw [show decide (val j < M) = false from decide_eq_false (by omega), if_neg Bool.false_ne_true]
      refine wpAny_bind (wpAny_letGo ?_)
      rw [nm]
      obtain ⟨i0, h0, e0⟩ := some_
      refine wpAny_pure ⟨plainId_quiet PySem.F.plain_min_loop _, ih (j + 1) _ M t c (by omega) lt st1 (fun i hi => ?_) ⟨i0, by omega, e0⟩ at1 fun h2 tk2 M2 t2 a2 s2 k2 => fin _ tk2 M2 t2 a2 s2 fun b o n1 n2 e => k2 b o n1 n2 (keep b o n1 e)⟩
      rcases Nat.lt_or_ge i j with h | h
      · exact all i h
      · obtain rfl : i = j := by omega
        omega
theorem mnargs (a d : Value) : argsOk "min" ⟨[a], [(Str.ofString "default", d)]⟩ := by
  unfold argsOk
  kernel_rfl
theorem mncall {prog : Program} {w : World} {A : Around} {E : Value → Shared → Prop} {s : Shared} {l : Addr} {xs : Array (Int × Tok)} {d : Value} {Q : Value → Shared → Prop} (hh : A.handled = none) (hl : s.heap.IsList l (intItems xs))
    (h0 : ∀ h' tk, xs.size = 0 → (∀ b o, s.heap.get? b = some o → h'.get? b = some o) → Q d { s with heap := h', toks := tk })
    (h1 : ∀ h' tk M t, (∀ i, i < xs.size → M ≤ numAt xs i) → (∃ i, i < xs.size ∧ numAt xs i = M) → (∀ b o, s.heap.get? b = some o → h'.get? b = some o) → Q (.int M t) { s with heap := h', toks := tk }) :
    wpAny (model prog w) A (call (.builtin "min") [.ref l] [("default", d)]) Q E s := by
  have nm : (toString "min" ++ toString ".loop" : String) = "min.loop" := by decide
  refine kmk_tree PySem.F.kind_min PySem.F.plain_min PySem.F.entry_min (mnargs _ _) ?_
  show wpAny _ A.in1 (Builtin.Builtins.bindParams "min" ["key", "default"] 0 ⟨[], [(Str.ofString "default", d)]⟩ >>= _) _ _ s
  refine wpAny_bind (wpAny_of_eq (show Builtin.Builtins.bindParams "min" ["key", "default"] 0 ⟨[], [(Str.ofString "default", d)]⟩ = pure [none, some d] by kernel_rfl) ?_)
  refine wpAny_bind (wpAny_pure ?_)
  refine wpAny_bind (iter_intList hl fun s2 e st hfp hlI => ?_)
  subst e
  refine wpAny_bind (wpAny_newObj_type ?_)
  have W := Walks.list (prog := prog) (w := w) (A := A.in1) hh s.heap.objs.size l hlI (intItems xs)
  have hsz : (intItems xs).size = xs.size := by simp [intItems]
  have kp : ∀ {h' : Heap} {o1 o2 : Obj}, (∀ b o, b ∉ [s.heap.objs.size] → b ≠ s.heap.objs.size + 1 → ((s.heap.push o1).push o2).get? b = some o → h'.get? b = some o) → ∀ b o, s.heap.get? b = some o → h'.get? b = some o := fun q b o e => by
    have lt := Heap.lt_size e
    refine q b o (fun hm => ?_) (Nat.ne_of_lt (Nat.lt_succ_of_lt lt)) (Heap.get?_push_of_some _ (Heap.get?_push_of_some _ e))
    rcases List.mem_cons.mp hm with e1 | hm
    · exact Nat.lt_irrefl _ (e1 ▸ lt)
    · cases hm
  generalize hS : (s.heap.push { cls := .type "list_iterator", data := .fields #[.ref l, .int 0 0] }).objs.size = S
  have eS : S = s.heap.objs.size + 1 := by rw [← hS, Heap.size_push]
  have hSf : S ∉ [s.heap.objs.size, l] := by
    intro hm
    have := hfp S hm
    have e2 : (s.heap.push { cls := .type "list_iterator", data := .fields #[.ref l, .int 0 0] }).objs.size = S := hS
    exact absurd (show S < _ from this) (by rw [e2]; exact Nat.lt_irrefl _)
  have st0 := W.frame 0 _ ((s.heap.push { cls := .type "list_iterator", data := .fields #[.ref l, .int 0 0] }).push { cls := .type "list", data := .seq #[] 0 }) st fun b _ o e => Heap.get?_push_of_some _ e
  have atS : ((s.heap.push { cls := .type "list_iterator", data := .fields #[.ref l, .int 0 0] }).push { cls := .type "list", data := .seq #[] 0 }).get? S = some { cls := .type "list", dict := none, data := .seq #[] 0, slots := #[] } := by
    rw [← hS]
    exact Heap.get?_push_size _ rfl
  have nw : S ∉ [s.heap.objs.size] := fun h => hSf (W.sub _ h)
  rw [nm]
  refine wpAny_pure ⟨plainId_quiet PySem.F.plain_min_loop _, ?_⟩
  apply codeAny_builtin PySem.F.entry_min_loop
  rw [Around.under_plainId PySem.F.plain_min_loop _]
  show wpAny _ A.in1 (seqItems? (.ref S) >>= _) _ _ _
  apply wpAny_bind
  apply wpAny_seqItems atS rfl
  show wpAny _ A.in1 (tryCatch (pyNext (.ref s.heap.objs.size)) _ >>= _) _ _ _
  rcases Nat.eq_zero_or_pos xs.size with hz | hz
  · refine wpAny_bind (wpAny_tryCatch (W.done _ _ _ (by rw [hsz, hz]; exact st0) fun h2 tk keep => ?_))
    refine wpAny_bind (wpAny_rule ?_)
    exact wpAny_pure (h0 _ tk hz (kp fun b o n1 _ e => keep b o n1 e))
  · refine wpAny_bind (wpAny_tryCatch (W.item 0 _ _ _ (by rw [hsz]; exact hz) st0 fun v h2 tk pv st1 keep => ?_))
    obtain ⟨u, rfl⟩ := intItems_at pv
    have at1 := keep S _ nw atS
    show wpAny _ A.in1 (updateSeq S (fun _ => #[.int (numAt xs 0) u, .int (numAt xs 0) u]) >>= _) _ _ _
    apply wpAny_bind
    refine wpAny_updateSeq at1 rfl ?_
    rw [nm]
    refine wpAny_pure ⟨plainId_quiet PySem.F.plain_min_loop _, mnloop W (numAt xs) (fun _ _ => intItems_at) _ S hSf _ 1 _ (numAt xs 0) u _ rfl (by rw [hsz]; exact hz) (W.frame _ _ _ st1 fun b hbf o e => ?_) (fun i hi => ?_) ⟨0, by omega, rfl⟩ (Heap.get?_update_self _ at1 rfl) fun h3 tk3 M t a3 s3 k3 => ?_⟩
    · exact (Heap.get?_update_other _ _ (fun h : S = b => hSf (by rw [h]; exact hbf))).trans e
    · obtain rfl : i = 0 := by omega
      exact Int.le_refl _
    · rw [hsz] at a3 s3
      exact h1 _ tk3 M t a3 s3 (kp fun b o n1 n2 e => k3 b o n1 (by rw [eS]; exact n2) ((Heap.get?_update_other _ _ (by rw [eS]; exact Ne.symm n2)).trans (keep b o n1 e)))
end PySem.G94D
namespace L2
open PySem PySem.Spec PyProof.Rows
section
variable {X : Cx}
/-- max(xs, default=d), xs a list of ints -/
def rMaxD (K : PySem.W.Frag) : List V → List V → Hp → VK → Prop := fun vs zs H Q => ∃ (a : Addr) (ns : List Int) (d : V), vs = [V.ref a] ∧ zs = [d] ∧ SqL K H a (ns.map V.int) ∧ (ns = [] → Q d H) ∧ ∀ m, m ∈ ns → (∀ y, y ∈ ns → y ≤ m) → Q (.int m) H
theorem cr_maxD (hc : X.calm = true) : CallRK X (.builtin "max") [Str.ofString "default"] (rMaxD X.K) := by
  intro pins s σ H vs zs us ws Q I r rz h
  obtain ⟨a, ns, d, rfl, rfl, hs, q0, q1⟩ := h
  obtain ⟨its, rv, hl, _⟩ := I.list hs
  rw [Vals.ref1 r]
  obtain ⟨dv, rfl, rd⟩ := vals1 rz
  obtain ⟨xs, e⟩ := rv.ints.allInts.items
  have hn : numsOf (intItems xs).toList = ns := by rw [← e]; exact rv.ints.numsOf
  rw [nums_intItems] at hn
  have hl2 := hl.isList
  rw [e] at hl2
  have sz : xs.size = ns.length := by rw [← hn, List.length_map, Array.length_toList]
  show wpAny _ _ (call (.builtin "max") [.ref a] [(Str.ofString "default", dv)]) _ _ _
  refine PySem.G94D.mxcall (I.ok.hd hc) hl2 (fun h' tk hz hk => ?_) fun h' tk M t ha hsm hk => ?_
  · exact ⟨d, H, I.kept hk, rd, q0 (List.eq_nil_of_length_eq_zero (by omega))⟩
  · refine ⟨.int M, H, I.kept hk, ⟨_, rfl⟩, q1 M ?_ fun y hy => ?_⟩
    · obtain ⟨i, hi, e2⟩ := hsm
      rw [← e2, numAt_eq, ← hn]
      exact PySem.getD_mem (by rw [List.length_map, Array.length_toList]; exact hi)
    · rw [← hn] at hy
      obtain ⟨j, hj, rfl⟩ := mem_getD hy
      rw [List.length_map, Array.length_toList] at hj
      rw [← numAt_eq]
      exact ha j hj
/-- min(xs, default=d), xs a list of ints -/
def rMinD (K : PySem.W.Frag) : List V → List V → Hp → VK → Prop := fun vs zs H Q => ∃ (a : Addr) (ns : List Int) (d : V), vs = [V.ref a] ∧ zs = [d] ∧ SqL K H a (ns.map V.int) ∧ (ns = [] → Q d H) ∧ ∀ m, m ∈ ns → (∀ y, y ∈ ns → m ≤ y) → Q (.int m) H
theorem cr_minD (hc : X.calm = true) : CallRK X (.builtin "min") [Str.ofString "default"] (rMinD X.K) := by
  intro pins s σ H vs zs us ws Q I r rz h
  obtain ⟨a, ns, d, rfl, rfl, hs, q0, q1⟩ := h
  obtain ⟨its, rv, hl, _⟩ := I.list hs
  rw [Vals.ref1 r]
  obtain ⟨dv, rfl, rd⟩ := vals1 rz
  obtain ⟨xs, e⟩ := rv.ints.allInts.items
  have hn : numsOf (intItems xs).toList = ns := by rw [← e]; exact rv.ints.numsOf
  rw [nums_intItems] at hn
  have hl2 := hl.isList
  rw [e] at hl2
  have sz : xs.size = ns.length := by rw [← hn, List.length_map, Array.length_toList]
  show wpAny _ _ (call (.builtin "min") [.ref a] [(Str.ofString "default", dv)]) _ _ _
  refine PySem.G94D.mncall (I.ok.hd hc) hl2 (fun h' tk hz hk => ?_) fun h' tk M t ha hsm hk => ?_
  · exact ⟨d, H, I.kept hk, rd, q0 (List.eq_nil_of_length_eq_zero (by omega))⟩
  · refine ⟨.int M, H, I.kept hk, ⟨_, rfl⟩, q1 M ?_ fun y hy => ?_⟩
    · obtain ⟨i, hi, e2⟩ := hsm
      rw [← e2, numAt_eq, ← hn]
      exact PySem.getD_mem (by rw [List.length_map, Array.length_toList]; exact hi)
    · rw [← hn] at hy
      obtain ⟨j, hj, rfl⟩ := mem_getD hy
      rw [List.length_map, Array.length_toList] at hj
      rw [← numAt_eq]
      exact ha j hj
end
end L2

/-! ### lists of lists of the same things -/
namespace L2
open PySem PySem.Spec PyProof.Rows
def plainV (z : V) : Prop := flatB z = true ∨ ∃ a, z = .ref a
theorem plain_refs (xs : List Addr) : ∀ z ∈ xs.map V.ref, plainV z := fun z hz => by
  obtain ⟨a, _, rfl⟩ := List.mem_map.mp hz
  exact .inr ⟨a, rfl⟩
theorem eqAt_plain {A : Around} {s : Shared} {v : V} {u u' : Value} (h : plainV v) (r : RelV v u) (r' : RelV v u') : SeqAt.EqAt A s u u' true := by
  rcases h with h | ⟨a, rfl⟩
  · exact eqAt_same r r' h
  · cases (show u = Value.ref a from r)
    cases (show u' = Value.ref a from r')
    exact SeqAt.EqAt.same _
theorem pair_at {F : V → V → Prop} : ∀ {xs ys : List V} {us ws : List Value}, Paired F xs ys → Vals xs us → Vals ys ws → ∀ j (h1 : j < us.length) (h2 : j < ws.length), ∃ x y, F x y ∧ RelV x us[j] ∧ RelV y ws[j]
  | _, _, _, _, .nil, .nil, .nil, j, h1, _ => absurd h1 (Nat.not_lt_zero j)
  | _, _, _, _, .cons f _, .cons a _, .cons b _, 0, _, _ => ⟨_, _, f, a, b⟩
  | _, _, _, _, .cons _ p, .cons _ r, .cons _ q, j + 1, h1, h2 => pair_at p r q j (Nat.lt_of_succ_lt_succ h1) (Nat.lt_of_succ_lt_succ h2)
theorem paired_self {P : V → Prop} : ∀ {zs : List V}, (∀ z ∈ zs, P z) → Paired (fun x y => x = y ∧ P x) zs zs
  | [], _ => .nil
  | z :: zs, h => .cons ⟨rfl, h z List.mem_cons_self⟩ (paired_self fun u hu => h u (List.mem_cons_of_mem _ hu))
def Alk (K : PySem.W.Frag) (H : Hp) (x y : V) : Prop := (x = y ∧ plainV x) ∨ ∃ a b zs, x = .ref a ∧ y = .ref b ∧ SqL K H a zs ∧ SqL K H b zs ∧ ∀ z ∈ zs, plainV z
section
variable {X : Cx} {pins : List (Addr × Obj)} {σ : St} {H : Hp} {s : Shared}
theorem all_yes (n : Nat) : ((List.range n).all fun _ => true) = true := List.all_eq_true.mpr fun _ _ => rfl
theorem eqAt_alk (I : Inv X pins σ H s) {A : Around} (hu : A.units < cLine) {x y : V} {v u : Value} (h : Alk X.K H x y) (rx : RelV x v) (ry : RelV y u) : SeqAt.EqAt A s v u true := by
  rcases h with ⟨rfl, p⟩ | ⟨a, b, zs, rfl, rfl, ha, hb, hz⟩
  · exact eqAt_plain p rx ry
  · cases (show v = Value.ref a from rx)
    cases (show u = Value.ref b from ry)
    by_cases e : a = b
    · subst e
      exact SeqAt.EqAt.same _
    · obtain ⟨us, r1, p1, _⟩ := I.list ha
      obtain ⟨ws, r2, p2, _⟩ := I.list hb
      have hsz : us.toArray.size = ws.toArray.size := by
        rw [List.size_toArray, List.size_toArray, ← r1.length, ← r2.length]
      have q := SeqAt.RcAt.lists (A := A) (e := fun _ => true) p1.isList p2.isList hsz hu fun j h1 h2 => by
        obtain ⟨x, y, ⟨exy, p⟩, q1, q2⟩ := pair_at (paired_self hz) r1 r2 j (by simpa using h1) (by simpa using h2)
        subst exy
        have := eqAt_plain (A := A.in1) (s := s) p q1 q2
        simpa using this
      rw [all_yes] at q
      exact SeqAt.EqAt.of_refs e q
theorem ne_alk (I : Inv X pins σ H s) {A : Around} (hu : A.units + 1 < cLine) {a b : Addr} {xs ys : List V} (ha : SqL X.K H a xs) (hb : SqL X.K H b ys) (hp : Paired (Alk X.K H) xs ys) :
    SeqAt.RcAt A s (.ref a) (.ref b) true ∧ SeqAt.RcNeAt A s (.ref a) (.ref b) false := by
  obtain ⟨us, r1, p1, _⟩ := I.list ha
  obtain ⟨ws, r2, p2, _⟩ := I.list hb
  have hsz : us.toArray.size = ws.toArray.size := by
    rw [List.size_toArray, List.size_toArray, ← r1.length, ← r2.length]
    exact Paired.length hp
  have he : ∀ j (h1 : j < us.toArray.size) (h2 : j < ws.toArray.size), SeqAt.EqAt A.in1 s us.toArray[j] ws.toArray[j] true := fun j h1 h2 => by
    obtain ⟨x, y, f, q1, q2⟩ := pair_at hp r1 r2 j (by simpa using h1) (by simpa using h2)
    have := eqAt_alk I (A := A.in1) (by show A.units + 1 < cLine; exact hu) f q1 q2
    simpa using this
  have q1 := SeqAt.RcAt.lists (A := A) (e := fun _ => true) p1.isList p2.isList hsz (by omega) he
  have q2 := SeqAt.RcNeAt.lists (A := A) (e := fun _ => true) p1.isList p2.isList hsz (by omega) he
  rw [all_yes] at q1 q2
  exact ⟨q1, q2⟩
end
section
variable {X : Cx}
def rEqK (K : PySem.W.Frag) : R2 := fun x y H Q => ∃ a b xs ys, x = .ref a ∧ y = .ref b ∧ SqL K H a xs ∧ SqL K H b ys ∧ Paired (Alk K H) xs ys ∧ Q (.bl true) H
def rNeK (K : PySem.W.Frag) : R2 := fun x y H Q => ∃ a b xs ys, x = .ref a ∧ y = .ref b ∧ SqL K H a xs ∧ SqL K H b ys ∧ Paired (Alk K H) xs ys ∧ Q (.bl false) H
theorem op_eqK (hu : X.A.units + 64 < cLine) : OpR X (compareOp .Eq) (rEqK X.K) := by
  intro pins s σ H x y v u Q I rx ry h
  obtain ⟨a, b, xs, ys, rfl, rfl, ha, hb, hp, q⟩ := h
  cases (show v = Value.ref a from rx)
  cases (show u = Value.ref b from ry)
  exact (ne_alk I (A := X.A) (by omega) ha hb hp).1 _ _ _ _ ⟨.bl true, H, I, rfl, q⟩
theorem op_neK (hu : X.A.units + 64 < cLine) : OpR X (compareOp .NotEq) (rNeK X.K) := by
  intro pins s σ H x y v u Q I rx ry h
  obtain ⟨a, b, xs, ys, rfl, rfl, ha, hb, hp, q⟩ := h
  cases (show v = Value.ref a from rx)
  cases (show u = Value.ref b from ry)
  exact (ne_alk I (A := X.A) (by omega) ha hb hp).2 _ _ _ _ ⟨.bl false, H, I, rfl, q⟩
end
end L2

/-! list(reversed(x)), x a list -/
namespace L2
open PySem PySem.Spec PyProof.Rows L2 RT
section
variable {prog : Program} {w : World} {A : Around} {E : Value → Shared → Prop} {s : Shared}
theorem extend_rev {R : Result → Shared → Prop} {it l S : Addr} {items : Array Value} (hh : A.handled = none) (hit : s.heap.IsRevIter it l ((items.size : Int) - 1)) (hl : s.heap.IsList l items) (hne : l ≠ it) (hSi : S ≠ it) (hSl : S ≠ l) (hn : items.size ≤ sizeLine) (res : Value) (c₀ : Nat)
    (hS : s.heap.get? S = some { cls := .type "list", data := .seq #[] c₀ })
    (hR : ∀ h' tk acc' c', (∀ b o, b ≠ S → b ≠ it → s.heap.get? b = some o → h'.get? b = some o) → h'.get? S = some { cls := .type "list", dict := none, data := .seq acc' c', slots := #[] } →
      ItemsOf (fun i v => items[items.size - 1 - i]? = some v) acc' items.size → R (.ok (.ret res)) { s with heap := h', toks := tk }) :
    wpAny (model prog w) A.in1 (Builtin.List.listExtendWith (.ref S) (.ref it) res)
      (fun fin s' => match fin with | .done f => R (.ok f) s' | .again c' => c'.quiet = true ∧ codeAny (model prog w) A c' R s') (fun e s' => R (.error e) s') s := by
  have W := (Walks.listRev (prog := prog) (w := w) (A := A.in1) hh it l hne items).toS
  have hSf : S ∉ [it, l] := by simp only [List.mem_cons, List.not_mem_nil, or_false, not_or]; exact ⟨hSi, hSl⟩
  have hT : s.TypeIs (.ref it) "list_reverseiterator" := hit.typeIs
  have h1 : Builtin.List.listSameRef (.ref S) (.ref it) = false := by simp [Builtin.List.listSameRef, hSi]
  unfold Builtin.List.listExtendWith
  refine wpAny_bind (wpAny_typeOf hT ?_)
  rw [if_neg (by rw [h1]; decide)]
  refine wpAny_bind (wpAny_pyIter_revIter hit ?_)
  refine wpAny_bind (wpAny_holding ?_)
  unfold Builtin.List.listLengthHint
  refine wpAny_bind (wpAny_specialOf hT nolen_lri ?_)
  show wpAny _ A.in1 (specialOf (Value.ref it) (Str.ofString "__length_hint__") >>= _) _ _ _
  refine wpAny_bind (wpAny_specialOf hT hint_lri ?_)
  generalize hid : ("list_reverseiterator.__length_hint__" : String) = id0
  wp_delta
  rw [show splitId id0 = some ("list_reverseiterator", "__length_hint__") from by subst hid; decide +kernel]
  subst hid
  refine wpAny_bind (wpAny_isInstance (b := true) hT (by rw [isSubtype_type]; kernel_rfl) ?_)
  refine wpAny_pure ?_
  rw [if_neg (by decide)]
  have e0 : ((items.size : Nat) : Int) - 1 - ((0 : Nat) : Int) = (items.size : Int) - 1 := by omega
  refine wpAny_pure ⟨plainId_quiet F.plain_extend_loop _, codeAny_extend_loopS W hn _ hSf _ items.size 0 _ _ _ rfl (Nat.zero_le _) ⟨Nat.zero_le _, by rw [e0]; exact hit, hl⟩ hS (ItemsOf.nil _) fun s' acc' c' hm hS' hacc => ?_⟩
  rw [Moved.eq_with hm]
  refine hR s'.heap s'.toks acc' c' (fun b o hb hb2 e => hm.heap b o (fun hmem => ?_) e) hS' hacc
  rcases List.mem_cons.mp hmem with e' | hmem
  · exact hb e'
  · exact hb2 (List.mem_singleton.mp hmem)
theorem call_list_rev {it l : Addr} {items : Array Value} {Q : Value → Shared → Prop} (hh : A.handled = none) (hit : s.heap.IsRevIter it l ((items.size : Int) - 1)) (hl : s.heap.IsList l items) (hne : l ≠ it) (hn : items.size ≤ sizeLine)
    (hQ : ∀ h' tk acc' c', (∀ b o, b ≠ it → s.heap.get? b = some o → h'.get? b = some o) →
      h'.get? s.heap.objs.size = some { cls := .type "list", dict := none, data := .seq acc' c', slots := #[] } → ItemsOf (fun i v => items[items.size - 1 - i]? = some v) acc' items.size → Q (.ref s.heap.objs.size) { s with heap := h', toks := tk }) :
    wpAny (model prog w) A (call (.type "list") [.ref it]) Q E s := by
  obtain ⟨oi, hoi, _⟩ := id hit
  obtain ⟨ol, hol, _⟩ := id hl
  refine callType_codes (Q₁ := fun obj s₁ => obj = .ref s.heap.objs.size ∧ s₁ = { s with heap := s.heap.push { cls := .type "list", data := .seq #[] } }) F.called_list (F.typeCall_list_1 _) F.entry_list_init
    (code_list_new _ ⟨rfl, rfl⟩) fun obj s₁ h₁ => ?_
  obtain ⟨rfl, rfl⟩ := h₁
  have hS : (s.heap.push { cls := .type "list", data := .seq #[] }).get? s.heap.objs.size = some { cls := .type "list", data := .seq #[] } := Heap.get?_push_size _ rfl
  refine ⟨⟨_, hS, rfl⟩, F.args_list_init_2 _ _, ?_⟩
  show wpAny _ A.in1.in1 (do let old ← Builtin.List.listItems (.ref s.heap.objs.size); Builtin.List.listUpdate (.ref s.heap.objs.size) (fun _ => #[]); letGo old.toList.reverse; Builtin.List.listExtendWith (.ref s.heap.objs.size) (.ref it) .none) _ _ _
  refine wpAny_bind ?_
  unfold Builtin.List.listItems
  refine wpAny_bind (wpAny_seqItems hS rfl (wpAny_pure ?_))
  show wpAny _ A.in1.in1 (updateSeq s.heap.objs.size (fun _ => #[]) >>= fun _ => letGo (#[] : Array Value).toList.reverse >>= fun _ => Builtin.List.listExtendWith (.ref s.heap.objs.size) (.ref it) .none) _ _ _
  refine wpAny_bind (wpAny_updateSeq hS rfl ?_)
  have hS₂ := Heap.get?_update_self (Obj.mapSeq (fun _ => (#[] : Array Value))) hS rfl
  have oth : ∀ b o, s.heap.get? b = some o → ((s.heap.push { cls := .type "list", data := .seq #[] }).update s.heap.objs.size (Obj.mapSeq (fun _ => (#[] : Array Value)))).get? b = some o :=
    fun b o e => (Heap.get?_update_other _ _ (Nat.ne_of_gt (Heap.lt_size e))).trans (Heap.get?_push_of_some _ e)
  refine wpAny_bind (wpAny_letGo ?_)
  have nl : l < s.heap.objs.size := Heap.lt_size hol
  have ni : it < s.heap.objs.size := Heap.lt_size hoi
  refine extend_rev (A := A.in1) hh (hit.at fun o e => oth _ _ e) (hl.at fun o e => oth _ _ e) hne (Nat.ne_of_gt ni) (Nat.ne_of_gt nl) hn .none _ hS₂ fun h' tk acc' c' hk hS' hacc => ?_
  exact ⟨rfl, hQ h' tk acc' c' (fun b o hb e => hk b o (Nat.ne_of_lt (Heap.lt_size e)) hb (oth _ _ e)) hS' hacc⟩
end
/-- list(reversed(x)), x a list: a new list -/
def tListRev (K : PySem.W.Frag) (te : TE) : TE := fun σ H Q => te σ H fun v H1 => ∃ (a : Addr) (xs : List V), v = .ref a ∧ SqL K H1 a xs ∧ New (.lst xs.reverse) H1 Q
section
variable {X : Cx}
theorem pe_listRev {e : Expr} {te : TE} {p p2 pos pos2 : Pos} (hc : X.calm = true) (hg : Gl X "list") (hm : X.mg "list" = none) (hg2 : Gl X "reversed") (hm2 : X.mg "reversed" = none) (he : PE X e te)
    (hs : starEach [e] X.env = (false, eval e X.env) :: starEach [] X.env := by rfl)
    (hs2 : starEach [.Call (.Name "reversed" p2) [e] [] pos2] X.env = (false, eval (.Call (.Name "reversed" p2) [e] [] pos2) X.env) :: starEach [] X.env := by rfl) :
    PE X (.Call (.Name "list" p) [.Call (.Name "reversed" p2) [e] [] pos2] [] pos) (tListRev X.K te) := by
  refine ⟨fun pins s σ H Q I h => ?_⟩
  refine Call_ (ld_blt I hg hm boot_list (PyProof.Rows.callWith_type1 (args_cons (Call_ (ld_blt I hg2 hm2 PyProof.Rows.boot_reversed (PyProof.Rows.callWith_type1 (args_cons (thn (he.up.run pins s σ H _ I ⟨_, h, fun _ _ r => r⟩) fun u s1 ⟨v, H1, I1, r1, q1⟩ => args_nil ?_) hs) hs rfl))) hs2) hs2 rfl))
  obtain ⟨a, xs, ev, hq, q⟩ := q1
  subst ev
  obtain rfl : u = Value.ref a := r1
  obtain ⟨its, rv, p', hz⟩ := I1.list hq
  refine call_reversed_list p'.isList (args_nil ?_)
  have k0 : ∀ b o, s1.heap.get? b = some o → (s1.heap.push (revObj a ((its.toArray.size : Int) - 1))).get? b = some o := fun b o e => Heap.get?_push_of_some _ e
  have I2 : Inv X pins σ H1 { s1 with heap := s1.heap.push (revObj a ((its.toArray.size : Int) - 1)) } := I1.kept (t' := s1.toks) k0
  obtain ⟨f0, f1, f2, f3, f4, f5⟩ := I1.fpOk (H' := H1) (b := s1.heap.objs.size) (Nat.le_refl _) (I1.hok.fresh (Nat.le_refl _))
  have hl := p'.isList
  obtain ⟨ol, hol, _⟩ := id hl
  have hne : a ≠ s1.heap.objs.size := Nat.ne_of_lt (Heap.lt_size hol)
  have hn : its.toArray.size ≤ sizeLine := by rw [List.size_toArray, ← rv.length]; exact hz
  refine call_list_rev (s := { s1 with heap := s1.heap.push (revObj a ((its.toArray.size : Int) - 1)) }) (I1.ok.hd hc) ⟨_, Heap.get?_push_size _ rfl, rfl, rfl⟩ (hl.push _) hne hn fun h' tk acc c' hk hS hi => ?_
  have I4 := I2.laid (a := (s1.heap.push (revObj a ((its.toArray.size : Int) - 1))).objs.size) (t' := s1.toks) (h' := (s1.heap.push (revObj a ((its.toArray.size : Int) - 1))).push { cls := .type "list", dict := none, data := .seq acc c', slots := #[] }) (o := .lst xs.reverse)
    (fun b u e => Heap.get?_push_of_some _ e) (Nat.le_refl _) (show ObjOk X.prog X.w _ _ _ (.lst xs.reverse) from ⟨by rw [List.length_reverse]; exact hz, acc.toList, c', vals_rev rv hi, by rw [Array.toArray_toList]; exact Heap.get?_push_size _ rfl⟩)
  obtain ⟨f0, f1, f2, f3, f4, f5⟩ := I1.fpOk (H' := upd H1 (s1.heap.push (revObj a ((its.toArray.size : Int) - 1))).objs.size (.lst xs.reverse)) (b := s1.heap.objs.size) (Nat.le_refl _) (by
    rw [upd_ne (Nat.ne_of_lt (Heap.lt_size (Heap.get?_push_size s1.heap (o := revObj a ((its.toArray.size : Int) - 1)) rfl)))]
    exact I1.hok.fresh (Nat.le_refl _))
  have I5 := I4.turned (t' := tk) (h' := h') (fun b o hb e => by
    rcases Heap.get?_push_cases e with ⟨rfl, rfl⟩ | e
    · exact hS
    · exact hk b o hb e) f0 f1 f3 f4 f5
  exact ⟨.ref _, _, I5, rfl, q.out _ (I2.hok.fresh (Nat.le_refl _))⟩
end
end L2

/-! an empty dict walked by its items -/
namespace L2
open PySem PySem.Spec PyProof.Rows L2
theorem lock_items0 {td : TE} {g : TG} {tb : TS} {D : Ends} {σ : St} {H : Hp} {d : Addr} (hd : H d = some (.dK [])) (hv : ∀ od Q, Q (.ref d) (upd H d (.frz od (.dK []))) → td σ (upd H d (.frz od (.dK []))) Q) (q : D.nx σ H) : tLock (tFor (iItems td) g tb) D σ H := by
  refine ⟨d, _, hd, trivial, fun od => hv od _ ⟨d, od, [], rfl, upd_same, ?_⟩⟩
  refine for_none ⟨upd_same, Nat.le_refl _⟩ ⟨upd_same, ?_⟩
  rw [upd_upd, upd_self hd]
  exact q
end L2

local macro_rules | `(tactic| walk_at "hp") => `(tactic| first
  | assumption
  | (apply L2.Same.at; assumption; walk_at "hp")
  | (apply L2.But.at; assumption; (walk_at "ne"); walk_at "hp")
  | (apply L2.But.kind; assumption; (walk_at "hp"); (walk_at "hp"); (intro z; cases z))
  | (apply L2.But2.at; assumption; (walk_at "ne"); (walk_at "ne"); walk_at "hp"))
local macro_rules | `(tactic| walk_at "ne") => `(tactic| first
  | assumption
  | exact Ne.symm (by assumption)
  | exact L2.neF (by assumption) (by walk_at "hp")
  | exact L2.neF2 (by assumption) (by walk_at "hp"))
local macro_rules | `(tactic| walk_at "sm") => `(tactic| first
  | exact L2.Same.refl _
  | assumption
  | (refine L2.Same.trans ?_ (by assumption); walk_at "sm")
  | (refine L2.Same.but ?_ (by assumption) (by walk_at "fr"); walk_at "sm"))
local macro_rules | `(tactic| walk_at "fr") => `(tactic| first
  | assumption
  | exact L2.Fr.back (by assumption) (by walk_at "sm"))
local macro_rules | `(tactic| walk_at "bt") => `(tactic| first
  | assumption
  | (refine L2.But.same ?_ (by assumption); walk_at "bt")
  | exact L2.But.before (by assumption) (by walk_at "sm")
  | (refine L2.But.trans ?_ (by assumption); walk_at "bt"))
local macro_rules | `(tactic| walk_at "b2") => `(tactic| first
  | assumption
  | exact L2.But2.refl
  | (refine L2.But2.trans ?_ (L2.Same.two (by assumption)); walk_at "b2")
  | (refine L2.But2.trans ?_ (L2.But.two (by assumption)); walk_at "b2")
  | (refine L2.But2.trans ?_ (L2.But.two' (by assumption)); walk_at "b2")
  | (refine L2.But2.trans ?_ (by assumption); walk_at "b2"))
local macro_rules | `(tactic| walk_at "sz") => `(tactic| first
  | exact Nat.le_of_ble_eq_true rfl
  | ((try simp only [List.length_append, List.length_map, List.length_cons, List.length_nil, List.length_take, List.length_drop, List.length_dropLast, List.length_reverse]); omega))
local macro_rules | `(tactic| walk_at "at") => `(tactic| first
  | rfl
  | assumption
  | exact L2.atI_nat (by first | rfl | assumption))
/-! ### the words of a reading: sd a side condition, rd one step, rds as many as go by themselves, ri a test -/
local macro_rules | `(tactic| walk_at "sd") => `(tactic| first
  | omega
  | (show (0 : Int) < _; omega)
  | (show (0 : Int) ≤ _; omega)
  | exact .inl ⟨by omega, by omega⟩
  | exact .inr ⟨by omega, by omega⟩
  | exact ⟨by decide, by decide⟩
  | exact ⟨by omega, by omega⟩
  | exact L2.small_size (Nat.le_of_ble_eq_true rfl)
  | exact L2.wide_div (b := 64) (by omega) (by omega) (by decide) (by decide)
  | assumption
  | exact ⟨_, by assumption⟩
  | exact .of (by walk_at "hp")
  | exact .inl (.of (by walk_at "hp"))
  | exact .inr (.of (by walk_at "hp"))
  | walk_at "hp"
  | exact L2.szlt (by walk_at "sz"))
local macro_rules | `(tactic| walk_at "rd") => `(tactic| first
  | refine ⟨_, rfl, ?_⟩
  | refine ⟨_, _, rfl, rfl, ?_⟩
  | refine ⟨_, _, rfl, ?_⟩
  | refine ⟨_, _, _, rfl, ?_⟩
  | refine ⟨_, _, _, _, rfl, ?_⟩
  | refine ⟨_, _, _, _, _, rfl, ?_⟩
  | refine ⟨_, _, _, _, _, _, rfl, ?_⟩
  | refine ⟨rfl, ?_⟩
  | refine L2.iteF ?_
  | refine L2.iteT ?_
  | refine And.intro (by walk_at "sd") ?_
  | refine ⟨_, _, _, _, true, rfl, .ty _, .base (.int _), L2.kit_ty (by decide +kernel), ?_⟩
  | refine ⟨_, _, _, _, false, rfl, .ty _, .base (.int _), L2.kit_ty (by decide +kernel), ?_⟩
  | refine ⟨_, _, _, _, true, rfl, .ty _, .base (.bl _), L2.kit_ty (by decide +kernel), ?_⟩
  | refine ⟨_, _, _, _, false, rfl, .ty _, .base (.bl _), L2.kit_ty (by decide +kernel), ?_⟩
  | refine ⟨_, _, _, _, true, rfl, .ty _, .base (.str _), L2.kit_ty (by decide +kernel), ?_⟩
  | refine ⟨_, _, _, _, false, rfl, .ty _, .base (.str _), L2.kit_ty (by decide +kernel), ?_⟩
  | refine ⟨_, _, _, _, true, rfl, .ty _, .base .non, L2.kit_ty (by decide +kernel), ?_⟩
  | refine ⟨_, _, _, _, false, rfl, .ty _, .base .non, L2.kit_ty (by decide +kernel), ?_⟩)
local macro_rules | `(tactic| walk_at "rds") => `(tactic| repeat walk_at "rd")
local macro_rules | `(tactic| walk_at "rz") => `(tactic| repeat first
  | walk_at "rd"
  | refine fun (_ : Int) => ?_
  | refine fun (_ : (_ : Int) ≤ _) => ?_
  | refine fun (_ : (_ : Int) < _) => ?_)
local macro_rules | `(tactic| walk_at "ri") => `(tactic| first
  | refine L2.iteV ?_ ?_
  | refine L2.iteNV ?_ ?_
  | refine L2.iteD ?_ ?_
  | refine L2.iteND ?_ ?_
  | refine L2.iteB ?_ ?_)
local macro_rules | `(tactic| walk_at "nf") => `(tactic| try dsimp only [L2.start, List.set_cons_zero, List.set_cons_succ])
local macro_rules | `(tactic| walk_at "g94len") => `(tactic| (intro vs H Q E h; first
  | exact False.elim h
  | (obtain ⟨e, _⟩ := h; exact congrArg List.length e)
  | (obtain ⟨_, e, _⟩ := h; exact congrArg List.length e)
  | (obtain ⟨_, _, e, _⟩ := h; exact congrArg List.length e)
  | (obtain ⟨_, _, _, e, _⟩ := h; exact congrArg List.length e)
  | (obtain ⟨_, _, _, _, e, _⟩ := h; exact congrArg List.length e)
  | (obtain ⟨_, _, _, _, _, e, _⟩ := h; exact congrArg List.length e)
  | (obtain ⟨_, _, _, _, _, _, e, _⟩ := h; exact congrArg List.length e)
  | (obtain ⟨_, _, _, _, _, _, _, e, _⟩ := h; exact congrArg List.length e)
  | (obtain ⟨_, _, _, _, _, _, _, _, e, _⟩ := h; exact congrArg List.length e)
  | (obtain ⟨_, _, _, _, _, _, _, _, _, e, _⟩ := h; exact congrArg List.length e)
  | (obtain ⟨_, _, _, _, _, _, _, _, _, _, e, _⟩ := h; exact congrArg List.length e)
  | (obtain ⟨_, _, _, _, _, _, _, _, _, _, _, e, _⟩ := h; exact congrArg List.length e)
  | (obtain ⟨_, _, _, _, _, _, _, _, _, _, _, _, e, _⟩ := h; exact congrArg List.length e)
  | (obtain ⟨_, _, _, _, _, _, _, _, _, _, _, _, _, e, _⟩ := h; exact congrArg List.length e)
  | (obtain ⟨_, _, _, _, _, _, _, _, _, _, _, _, _, _, e, _⟩ := h; exact congrArg List.length e)))
local macro_rules | `(tactic| walk_at "g94tr") => `(tactic| (set_option pp.deepTerms false in set_option pp.deepTerms.threshold 8 in trace_state))
local macro_rules | `(tactic| walk_at "wk") => `(tactic| first
  | walk_at "rd"
  | refine ⟨_, _, _, _, rfl, rfl, .of (by walk_at "hp"), (by walk_at "at"), ?_⟩
  | refine ⟨_, _, _, _, _, rfl, (by walk_at "hp"), (by assumption), (by assumption), (by walk_at "lk"), ?_⟩
  | refine ⟨_, _, _, rfl, rfl, (by walk_at "hp"), L2.szlt (by walk_at "sz"), ?_⟩
  | refine ⟨_, _, _, rfl, (by walk_at "hp"), (by walk_at "lk"), ?_⟩
  | refine ⟨_, _, _, _, rfl, (by walk_at "hp"), (by assumption), (by assumption), Nat.le_of_ble_eq_true rfl, _, (by walk_at "pf"), ?_⟩
  | refine ⟨_, _, _, _, true, rfl, .ty _, .base (.lst (by walk_at "hp")), L2.kit_ty (by decide +kernel), ?_⟩
  | refine ⟨_, _, _, _, true, rfl, .ty _, .base (.tup (by walk_at "hp")), L2.kit_ty (by decide +kernel), ?_⟩
  | refine ⟨_, _, _, _, true, rfl, .ty _, .base (.dK (by walk_at "hp")), L2.kit_ty (by decide +kernel), ?_⟩
  | refine ⟨_, _, _, rfl, (by walk_at "hp"), ?_⟩
  | refine ⟨_, _, rfl, (by walk_at "hp"), ?_⟩
  | refine ⟨.inl ⟨rfl, _, .of (by walk_at "hp")⟩, ?_⟩
  | refine ⟨_, _, rfl, .inl (.of (by walk_at "hp")), ?_⟩
  | refine ⟨_, _, rfl, .of (by walk_at "hp"), ?_⟩
  | refine ⟨_, _, _, _, rfl, rfl, (by walk_at "hp"), (by walk_at "hp"), L2.small_size (by walk_at "sz"), ?_⟩
  | refine ⟨_, _, _, rfl, rfl, (by walk_at "hp"), ⟨by decide, by decide, L2.small_size (by walk_at "sz")⟩, ?_⟩
  | refine fun p H' (f : L2.Fr _ _) (s : L2.Same _ _) (h : _ = some _) => ?_
  | refine fun H' (m : L2.But _ _ _) (h : _ = some _) => ?_)
local macro_rules | `(tactic| walk_at "wks") => `(tactic| repeat walk_at "wk")
local macro_rules | `(tactic| walk_at "lk") => `(tactic| first
  | exact L2.lkE (by decide +kernel)
  | exact L2.lkN (by decide +kernel) (by walk_at "lk")
  | rfl
  | assumption)
local macro_rules | `(tactic| walk_at "pf") => `(tactic| first
  | exact L2.pfNil
  | exact L2.pfE (by decide +kernel)
  | exact L2.pfN (by decide +kernel) (by walk_at "pf"))
namespace G94
open PySem PySem.Spec PyProof.Rows L2
def top (i : Nat) : Stmt := PySem.Challenge.pw_lampcues_k40_refused_deeds.main.body.getD i (.Pass ⟨0, 0, 0, 0⟩)
abbrev s_is_time : Stmt := top 12
theorem sc_is_time : FnScope ["thing"] ["thing"] (defScope s_is_time) := ⟨rfl, rfl, rfl, by decide +kernel, rfl, by decide +kernel, by decide +kernel⟩
abbrev s_is_amid : Stmt := top 17
theorem sc_is_amid : FnScope ["thing", "least", "most"] ["thing", "least", "most"] (defScope s_is_amid) := ⟨rfl, rfl, rfl, by decide +kernel, rfl, by decide +kernel, by decide +kernel⟩
abbrev s_is_lamp : Stmt := top 18
theorem sc_is_lamp : FnScope ["thing", "sign"] ["thing"] (defScope s_is_lamp) := ⟨rfl, rfl, rfl, by decide +kernel, rfl, by decide +kernel, by decide +kernel⟩
abbrev s_is_slot : Stmt := top 19
theorem sc_is_slot : FnScope ["thing"] ["thing"] (defScope s_is_slot) := ⟨rfl, rfl, rfl, by decide +kernel, rfl, by decide +kernel, by decide +kernel⟩
abbrev s_is_worth : Stmt := top 20
theorem sc_is_worth : FnScope ["thing"] ["thing"] (defScope s_is_worth) := ⟨rfl, rfl, rfl, by decide +kernel, rfl, by decide +kernel, by decide +kernel⟩
abbrev s_look_at_slots : Stmt := top 21
theorem sc_look_at_slots : FnScope ["told", "slot"] ["told"] (defScope s_look_at_slots) := ⟨rfl, rfl, rfl, by decide +kernel, rfl, by decide +kernel, by decide +kernel⟩
abbrev s_look_at_worths : Stmt := top 22
theorem sc_look_at_worths : FnScope ["told", "worth"] ["told"] (defScope s_look_at_worths) := ⟨rfl, rfl, rfl, by decide +kernel, rfl, by decide +kernel, by decide +kernel⟩
abbrev s_Part_init : Stmt := inClass (top 23) 0
theorem sc_Part_init : FnScope ["self", "tells", "alone", "rise", "fall", "wait"] ["self", "tells", "alone", "rise", "fall", "wait"] (defScope s_Part_init) := ⟨rfl, rfl, rfl, by decide +kernel, rfl, by decide +kernel, by decide +kernel⟩
abbrev s_Part_slots : Stmt := inClass (top 23) 2
theorem sc_Part_slots : FnScope ["self", "slot"] ["self"] (defScope s_Part_slots) := ⟨rfl, rfl, rfl, by decide +kernel, rfl, by decide +kernel, by decide +kernel⟩
abbrev s_are_parts : Stmt := top 24
theorem sc_are_parts : FnScope ["parts", "told", "part", "slot"] ["parts"] (defScope s_are_parts) := ⟨rfl, rfl, rfl, by decide +kernel, rfl, by decide +kernel, by decide +kernel⟩
abbrev s_Cue_init : Stmt := inClass (top 25) 0
theorem sc_Cue_init : FnScope ["self", "number", "parts", "stops", "follow"] ["self", "number", "parts", "stops", "follow"] (defScope s_Cue_init) := ⟨rfl, rfl, rfl, by decide +kernel, rfl, by decide +kernel, by decide +kernel⟩
abbrev s_cue_list : Stmt := top 26
theorem sc_cue_list : FnScope ["cues", "last", "cue"] ["cues"] (defScope s_cue_list) := ⟨rfl, rfl, rfl, by decide +kernel, rfl, by decide +kernel, by decide +kernel⟩
abbrev s_good_number : Stmt := top 28
theorem sc_good_number : FnScope ["number"] ["number"] (defScope s_good_number) := ⟨rfl, rfl, rfl, by decide +kernel, rfl, by decide +kernel, by decide +kernel⟩
abbrev s_cue_at : Stmt := top 30
theorem sc_cue_at : FnScope ["cues", "number", "there", "asked", "cue"] ["cues", "number"] (defScope s_cue_at) := ⟨rfl, rfl, rfl, by decide +kernel, rfl, by decide +kernel, by decide +kernel⟩
abbrev s_above : Stmt := top 33
theorem sc_above : FnScope ["cues", "number", "there", "asked", "cue"] ["cues", "number"] (defScope s_above) := ⟨rfl, rfl, rfl, by decide +kernel, rfl, by decide +kernel, by decide +kernel⟩
abbrev s_below : Stmt := top 34
theorem sc_below : FnScope ["cues", "number", "there", "asked", "found", "cue"] ["cues", "number"] (defScope s_below) := ⟨rfl, rfl, rfl, by decide +kernel, rfl, by decide +kernel, by decide +kernel⟩
abbrev s_put_in_look : Stmt := top 29
theorem sc_put_in_look : FnScope ["look", "told", "slot", "worth"] ["look", "told"] (defScope s_put_in_look) := ⟨rfl, rfl, rfl, by decide +kernel, rfl, by decide +kernel, by decide +kernel⟩
abbrev s_carried : Stmt := top 31
theorem sc_carried : FnScope ["cues", "number", "there", "asked", "look", "cue", "part"] ["cues", "number"] (defScope s_carried) := ⟨rfl, rfl, rfl, by decide +kernel, rfl, by decide +kernel, by decide +kernel⟩
abbrev s_shown : Stmt := top 32
theorem sc_shown : FnScope ["cues", "number", "look", "cue", "part"] ["cues", "number"] (defScope s_shown) := ⟨rfl, rfl, rfl, by decide +kernel, rfl, by decide +kernel, by decide +kernel⟩
abbrev s_Onward_goal : Stmt := inClass (top 37) 0
theorem sc_Onward_goal : FnScope ["self", "cues", "number", "found"] ["self", "cues", "number"] (defScope s_Onward_goal) := ⟨rfl, rfl, rfl, by decide +kernel, rfl, by decide +kernel, by decide +kernel⟩
abbrev s_March_word : Stmt := inClass (top 36) 1
theorem sc_March_word : FnScope ["self"] ["self"] (defScope s_March_word) := ⟨rfl, rfl, rfl, by decide +kernel, rfl, by decide +kernel, by decide +kernel⟩
abbrev s_Backward_goal : Stmt := inClass (top 38) 0
theorem sc_Backward_goal : FnScope ["self", "cues", "number"] ["self", "cues", "number"] (defScope s_Backward_goal) := ⟨rfl, rfl, rfl, by decide +kernel, rfl, by decide +kernel, by decide +kernel⟩
abbrev s_Backward_word : Stmt := inClass (top 38) 1
theorem sc_Backward_word : FnScope ["self"] ["self"] (defScope s_Backward_word) := ⟨rfl, rfl, rfl, by decide +kernel, rfl, by decide +kernel, by decide +kernel⟩
abbrev s_Straight_init : Stmt := inClass (top 39) 0
theorem sc_Straight_init : FnScope ["self", "told"] ["self", "told"] (defScope s_Straight_init) := ⟨rfl, rfl, rfl, by decide +kernel, rfl, by decide +kernel, by decide +kernel⟩
abbrev s_Straight_goal : Stmt := inClass (top 39) 1
theorem sc_Straight_goal : FnScope ["self", "cues", "number", "cue"] ["self", "cues", "number"] (defScope s_Straight_goal) := ⟨rfl, rfl, rfl, by decide +kernel, rfl, by decide +kernel, by decide +kernel⟩
abbrev s_march_of : Stmt := top 40
theorem sc_march_of : FnScope ["deed"] ["deed"] (defScope s_march_of) := ⟨rfl, rfl, rfl, by decide +kernel, rfl, by decide +kernel, by decide +kernel⟩
abbrev s_Walk_init : Stmt := inClass (top 41) 0
theorem sc_Walk_init : FnScope ["self", "cues"] ["self", "cues"] (defScope s_Walk_init) := ⟨rfl, rfl, rfl, by decide +kernel, rfl, by decide +kernel, by decide +kernel⟩
abbrev s_Walk_clock : Stmt := inClass (top 41) 1
theorem sc_Walk_clock : FnScope ["self", "top", "bottom"] ["self", "top", "bottom"] (defScope s_Walk_clock) := ⟨rfl, rfl, rfl, by decide +kernel, rfl, by decide +kernel, by decide +kernel⟩
abbrev s_Walk_tell_row : Stmt := inClass (top 41) 2
theorem sc_Walk_tell_row : FnScope ["self", "clock", "word"] ["self", "clock", "word"] (defScope s_Walk_tell_row) := ⟨rfl, rfl, rfl, by decide +kernel, rfl, by decide +kernel, by decide +kernel⟩
abbrev s_Walk_arrive : Stmt := inClass (top 41) 3
theorem sc_Walk_arrive : FnScope ["self", "clock", "number", "word", "follow"] ["self", "clock", "number", "word"] (defScope s_Walk_arrive) := ⟨rfl, rfl, rfl, by decide +kernel, rfl, by decide +kernel, by decide +kernel⟩
abbrev s_Walk_catch_up : Stmt := inClass (top 41) 4
theorem sc_Walk_catch_up : FnScope ["self", "top", "bottom", "clock", "number"] ["self", "top", "bottom"] (defScope s_Walk_catch_up) := ⟨rfl, rfl, rfl, by decide +kernel, rfl, by decide +kernel, by decide +kernel⟩
abbrev s_Walk_let_on : Stmt := inClass (top 41) 5
theorem sc_Walk_let_on : FnScope ["self", "tick"] ["self", "tick"] (defScope s_Walk_let_on) := ⟨rfl, rfl, rfl, by decide +kernel, rfl, by decide +kernel, by decide +kernel⟩
abbrev s_Walk_take : Stmt := inClass (top 41) 6
theorem sc_Walk_take : FnScope ["self", "deed", "tick", "clock", "march", "goal"] ["self", "deed"] (defScope s_Walk_take) := ⟨rfl, rfl, rfl, by decide +kernel, rfl, by decide +kernel, by decide +kernel⟩
abbrev s_look_at_ticks : Stmt := top 42
theorem sc_look_at_ticks : FnScope ["deeds", "last", "deed"] ["deeds"] (defScope s_look_at_ticks) := ⟨rfl, rfl, rfl, by decide +kernel, rfl, by decide +kernel, by decide +kernel⟩
abbrev s_rows_of : Stmt := top 43
theorem sc_rows_of : FnScope ["cues", "deeds", "top", "bottom", "walk", "deed"] ["cues", "deeds", "top", "bottom"] (defScope s_rows_of) := ⟨rfl, rfl, rfl, by decide +kernel, rfl, by decide +kernel, by decide +kernel⟩
abbrev s_Aim_init : Stmt := inClass (top 49) 0
theorem sc_Aim_init : FnScope ["self", "row"] ["self", "row"] (defScope s_Aim_init) := ⟨rfl, rfl, rfl, by decide +kernel, rfl, by decide +kernel, by decide +kernel⟩
abbrev s_slots_of : Stmt := top 51
theorem sc_slots_of : FnScope ["aims", "found", "aim", "slot"] ["aims"] (defScope s_slots_of) := ⟨rfl, rfl, rfl, by decide +kernel, rfl, by decide +kernel, by decide +kernel⟩
abbrev s_told : Stmt := top 52
theorem sc_told : FnScope ["cues", "deeds", "top", "bottom", "rows", "clock", "part", "aims", "look", "slot", "worth", "row"] ["cues", "deeds", "top", "bottom"] (defScope s_told) := ⟨rfl, rfl, rfl, by decide +kernel, rfl, by decide +kernel, by decide +kernel⟩
abbrev s_l_cell_at : Stmt := top 54
theorem sc_l_cell_at : FnScope ["_law_script", "_law_k"] ["_law_script", "_law_k"] (defScope s_l_cell_at) := ⟨rfl, rfl, rfl, by decide +kernel, rfl, by decide +kernel, by decide +kernel⟩
abbrev s_l_whole : Stmt := top 55
theorem sc_l_whole : FnScope ["_law_found"] ["_law_found"] (defScope s_l_whole) := ⟨rfl, rfl, rfl, by decide +kernel, rfl, by decide +kernel, by decide +kernel⟩
abbrev s_l_mixed : Stmt := top 56
theorem sc_l_mixed : FnScope ["_law_cell", "_law_k"] ["_law_cell", "_law_k"] (defScope s_l_mixed) := ⟨rfl, rfl, rfl, by decide +kernel, rfl, by decide +kernel, by decide +kernel⟩
abbrev s_l_time : Stmt := top 57
theorem sc_l_time : FnScope ["_law_mixed_here", "_law_number"] ["_law_mixed_here"] (defScope s_l_time) := ⟨rfl, rfl, rfl, by decide +kernel, rfl, by decide +kernel, by decide +kernel⟩
abbrev s_l_numbers : Stmt := top 58
theorem sc_l_numbers : FnScope ["_law_mixed_here", "_law_numbers_here", "_law_last", "_law_k"] ["_law_mixed_here"] (defScope s_l_numbers) := ⟨rfl, rfl, rfl, by decide +kernel, rfl, by decide +kernel, by decide +kernel⟩
abbrev s_l_deeds : Stmt := top 59
theorem sc_l_deeds : FnScope ["_law_script", "_law_deeds_here", "_law_tick", "_law_k", "_law_mixed_here", "_law_word", "_law_deed"] ["_law_script"] (defScope s_l_deeds) := ⟨rfl, rfl, rfl, by decide +kernel, rfl, by decide +kernel, by decide +kernel⟩
abbrev s_l_fallen : Stmt := top 60
theorem sc_l_fallen : FnScope ["_law_deeds_here", "_law_mixed_here", "_law_places", "_law_at", "_law_tick", "_law_k"] ["_law_deeds_here", "_law_mixed_here"] (defScope s_l_fallen) := ⟨rfl, rfl, rfl, by decide +kernel, rfl, by decide +kernel, by decide +kernel⟩
abbrev s_l_truths : Stmt := top 61
theorem sc_l_truths : FnScope ["_law_way", "_law_cues", "_law_deeds_here", "_law_top", "_law_truths_here", "e"] ["_law_way", "_law_cues", "_law_deeds_here", "_law_top"] (defScope s_l_truths) := ⟨rfl, rfl, rfl, by decide +kernel, rfl, by decide +kernel, by decide +kernel⟩
abbrev s_law : Stmt := top 62
theorem sc_law : FnScope ["_law_script", "_law_mixed_here", "_law_numbers_here", "_law_cues", "_law_none", "_law_deeds_here", "_law_fallen_here", "_law_ticks", "_law_tops", "_law_top", "_law_kept", "_law_way", "_law_number", "_law_deed"] ["_law_script"] (defScope s_law) := ⟨rfl, rfl, rfl, by decide +kernel, rfl, by decide +kernel, by decide +kernel⟩
def d_is_time : He.DefD := ⟨("is_time", none), "is_time", "is_time", defArgs s_is_time, defBody s_is_time, defScope s_is_time, [], []⟩
def d_is_amid : He.DefD := ⟨("is_amid", none), "is_amid", "is_amid", defArgs s_is_amid, defBody s_is_amid, defScope s_is_amid, [], []⟩
def d_is_lamp : He.DefD := ⟨("is_lamp", none), "is_lamp", "is_lamp", defArgs s_is_lamp, defBody s_is_lamp, defScope s_is_lamp, [], []⟩
def d_is_slot : He.DefD := ⟨("is_slot", none), "is_slot", "is_slot", defArgs s_is_slot, defBody s_is_slot, defScope s_is_slot, [], []⟩
def d_is_worth : He.DefD := ⟨("is_worth", none), "is_worth", "is_worth", defArgs s_is_worth, defBody s_is_worth, defScope s_is_worth, [], []⟩
def d_look_at_slots : He.DefD := ⟨("look_at_slots", none), "look_at_slots", "look_at_slots", defArgs s_look_at_slots, defBody s_look_at_slots, defScope s_look_at_slots, [], []⟩
def d_look_at_worths : He.DefD := ⟨("look_at_worths", none), "look_at_worths", "look_at_worths", defArgs s_look_at_worths, defBody s_look_at_worths, defScope s_look_at_worths, [], []⟩
def d_Part_init : He.DefD := ⟨("Part", some "__init__"), "__init__", "Part.__init__", defArgs s_Part_init, defBody s_Part_init, defScope s_Part_init, [.int 0, .int 0, .int 0], []⟩
def d_Part_slots : He.DefD := ⟨("Part", some "slots"), "slots", "Part.slots", defArgs s_Part_slots, defBody s_Part_slots, defScope s_Part_slots, [], []⟩
def d_are_parts : He.DefD := ⟨("are_parts", none), "are_parts", "are_parts", defArgs s_are_parts, defBody s_are_parts, defScope s_are_parts, [], []⟩
def d_Cue_init : He.DefD := ⟨("Cue", some "__init__"), "__init__", "Cue.__init__", defArgs s_Cue_init, defBody s_Cue_init, defScope s_Cue_init, [.bl false, .non], []⟩
def d_cue_list : He.DefD := ⟨("cue_list", none), "cue_list", "cue_list", defArgs s_cue_list, defBody s_cue_list, defScope s_cue_list, [], []⟩
def d_good_number : He.DefD := ⟨("good_number", none), "good_number", "good_number", defArgs s_good_number, defBody s_good_number, defScope s_good_number, [], []⟩
def d_cue_at : He.DefD := ⟨("cue_at", none), "cue_at", "cue_at", defArgs s_cue_at, defBody s_cue_at, defScope s_cue_at, [], []⟩
def d_above : He.DefD := ⟨("above", none), "above", "above", defArgs s_above, defBody s_above, defScope s_above, [], []⟩
def d_below : He.DefD := ⟨("below", none), "below", "below", defArgs s_below, defBody s_below, defScope s_below, [], []⟩
def d_put_in_look : He.DefD := ⟨("put_in_look", none), "put_in_look", "put_in_look", defArgs s_put_in_look, defBody s_put_in_look, defScope s_put_in_look, [], []⟩
def d_carried : He.DefD := ⟨("carried", none), "carried", "carried", defArgs s_carried, defBody s_carried, defScope s_carried, [], []⟩
def d_shown : He.DefD := ⟨("shown", none), "shown", "shown", defArgs s_shown, defBody s_shown, defScope s_shown, [], []⟩
def d_Onward_goal : He.DefD := ⟨("Onward", some "goal"), "goal", "Onward.goal", defArgs s_Onward_goal, defBody s_Onward_goal, defScope s_Onward_goal, [], []⟩
def d_March_word : He.DefD := ⟨("March", some "word"), "word", "March.word", defArgs s_March_word, defBody s_March_word, defScope s_March_word, [], []⟩
def d_Backward_goal : He.DefD := ⟨("Backward", some "goal"), "goal", "Backward.goal", defArgs s_Backward_goal, defBody s_Backward_goal, defScope s_Backward_goal, [], []⟩
def d_Backward_word : He.DefD := ⟨("Backward", some "word"), "word", "Backward.word", defArgs s_Backward_word, defBody s_Backward_word, defScope s_Backward_word, [], []⟩
def d_Straight_init : He.DefD := ⟨("Straight", some "__init__"), "__init__", "Straight.__init__", defArgs s_Straight_init, defBody s_Straight_init, defScope s_Straight_init, [], []⟩
def d_Straight_goal : He.DefD := ⟨("Straight", some "goal"), "goal", "Straight.goal", defArgs s_Straight_goal, defBody s_Straight_goal, defScope s_Straight_goal, [], []⟩
def d_march_of : He.DefD := ⟨("march_of", none), "march_of", "march_of", defArgs s_march_of, defBody s_march_of, defScope s_march_of, [], []⟩
def d_Walk_init : He.DefD := ⟨("Walk", some "__init__"), "__init__", "Walk.__init__", defArgs s_Walk_init, defBody s_Walk_init, defScope s_Walk_init, [], []⟩
def d_Walk_clock : He.DefD := ⟨("Walk", some "clock"), "clock", "Walk.clock", defArgs s_Walk_clock, defBody s_Walk_clock, defScope s_Walk_clock, [], []⟩
def d_Walk_tell_row : He.DefD := ⟨("Walk", some "tell_row"), "tell_row", "Walk.tell_row", defArgs s_Walk_tell_row, defBody s_Walk_tell_row, defScope s_Walk_tell_row, [], []⟩
def d_Walk_arrive : He.DefD := ⟨("Walk", some "arrive"), "arrive", "Walk.arrive", defArgs s_Walk_arrive, defBody s_Walk_arrive, defScope s_Walk_arrive, [], []⟩
def d_Walk_catch_up : He.DefD := ⟨("Walk", some "catch_up"), "catch_up", "Walk.catch_up", defArgs s_Walk_catch_up, defBody s_Walk_catch_up, defScope s_Walk_catch_up, [], []⟩
def d_Walk_let_on : He.DefD := ⟨("Walk", some "let_on"), "let_on", "Walk.let_on", defArgs s_Walk_let_on, defBody s_Walk_let_on, defScope s_Walk_let_on, [], []⟩
def d_Walk_take : He.DefD := ⟨("Walk", some "take"), "take", "Walk.take", defArgs s_Walk_take, defBody s_Walk_take, defScope s_Walk_take, [], []⟩
def d_look_at_ticks : He.DefD := ⟨("look_at_ticks", none), "look_at_ticks", "look_at_ticks", defArgs s_look_at_ticks, defBody s_look_at_ticks, defScope s_look_at_ticks, [], []⟩
def d_rows_of : He.DefD := ⟨("rows_of", none), "rows_of", "rows_of", defArgs s_rows_of, defBody s_rows_of, defScope s_rows_of, [.int 1], []⟩
def d_Aim_init : He.DefD := ⟨("Aim", some "__init__"), "__init__", "Aim.__init__", defArgs s_Aim_init, defBody s_Aim_init, defScope s_Aim_init, [], []⟩
def d_slots_of : He.DefD := ⟨("slots_of", none), "slots_of", "slots_of", defArgs s_slots_of, defBody s_slots_of, defScope s_slots_of, [], []⟩
def d_told : He.DefD := ⟨("told", none), "told", "told", defArgs s_told, defBody s_told, defScope s_told, [.int 1], []⟩
def d_l_cell_at : He.DefD := ⟨("_law_cell_at", none), "_law_cell_at", "_law_cell_at", defArgs s_l_cell_at, defBody s_l_cell_at, defScope s_l_cell_at, [], []⟩
def d_l_whole : He.DefD := ⟨("_law_whole", none), "_law_whole", "_law_whole", defArgs s_l_whole, defBody s_l_whole, defScope s_l_whole, [], []⟩
def d_l_mixed : He.DefD := ⟨("_law_mixed", none), "_law_mixed", "_law_mixed", defArgs s_l_mixed, defBody s_l_mixed, defScope s_l_mixed, [], []⟩
def d_l_time : He.DefD := ⟨("_law_time", none), "_law_time", "_law_time", defArgs s_l_time, defBody s_l_time, defScope s_l_time, [], []⟩
def d_l_numbers : He.DefD := ⟨("_law_numbers", none), "_law_numbers", "_law_numbers", defArgs s_l_numbers, defBody s_l_numbers, defScope s_l_numbers, [], []⟩
def d_l_deeds : He.DefD := ⟨("_law_deeds", none), "_law_deeds", "_law_deeds", defArgs s_l_deeds, defBody s_l_deeds, defScope s_l_deeds, [], []⟩
def d_l_fallen : He.DefD := ⟨("_law_fallen", none), "_law_fallen", "_law_fallen", defArgs s_l_fallen, defBody s_l_fallen, defScope s_l_fallen, [], []⟩
def d_l_truths : He.DefD := ⟨("_law_truths", none), "_law_truths", "_law_truths", defArgs s_l_truths, defBody s_l_truths, defScope s_l_truths, [], []⟩
def d_law : He.DefD := ⟨("law", none), "law", "law", defArgs s_law, defBody s_law, defScope s_law, [], []⟩
def fn : List He.DefD := [d_is_time, d_is_amid, d_is_lamp, d_is_slot, d_is_worth, d_look_at_slots, d_look_at_worths, d_Part_init, d_Part_slots, d_are_parts, d_Cue_init, d_cue_list, d_good_number, d_cue_at, d_above, d_below, d_put_in_look, d_carried, d_shown, d_Onward_goal, d_March_word, d_Backward_goal, d_Backward_word, d_Straight_init, d_Straight_goal, d_march_of, d_Walk_init, d_Walk_clock, d_Walk_tell_row, d_Walk_arrive, d_Walk_catch_up, d_Walk_let_on, d_Walk_take, d_look_at_ticks, d_rows_of, d_Aim_init, d_slots_of, d_told, d_l_cell_at, d_l_whole, d_l_mixed, d_l_time, d_l_numbers, d_l_deeds, d_l_fallen, d_l_truths, d_law]
def fa : List He.Fa := [.glo "is_time", .glo "is_amid", .glo "is_lamp", .glo "is_slot", .glo "is_worth", .glo "look_at_slots", .glo "look_at_worths", .glo "are_parts", .glo "cue_list", .glo "good_number", .glo "cue_at", .glo "above", .glo "below", .glo "put_in_look", .glo "carried", .glo "shown", .glo "march_of", .glo "look_at_ticks", .glo "rows_of", .glo "slots_of", .glo "told", .glo "_law_cell_at", .glo "_law_whole", .glo "_law_mixed", .glo "_law_time", .glo "_law_numbers", .glo "_law_deeds", .glo "_law_fallen", .glo "_law_truths", .glo "law", .glo "Part", .glo "Cue", .glo "Onward", .glo "Backward", .glo "Straight", .glo "Walk", .glo "Aim", .glo "Late", .glo "LampError", .glo "NoList", .glo "NoCue", .glo "SIDES", .free "len", .free "min", .free "max", .free "isinstance", .free "int", .free "bool", .free "range", .free "list", .free "dict", .free "str", .free "tuple", .free "reversed", .free "ValueError", .int "MOST_times" 1000000000, .str "LETTERS" "abcdefghijklmnopqrstuvwxyz", .int "MOST_cues" 1000000000, .int "BACK" 1000, .exc "Late", .exc "NoList", .exm "Late" "LampError" true, .exm "NoList" "LampError" true, .cls "Part", .mkr "Part", .noat "Part" "tells", .noat "Part" "alone", .noat "Part" "rise", .noat "Part" "fall", .noat "Part" "wait", .meth "Part" "slots", .cls "Cue", .mkr "Cue", .noat "Cue" "number", .noat "Cue" "parts", .noat "Cue" "stops", .noat "Cue" "follow", .cls "Onward", .meth "Onward" "goal", .cls "Backward", .meth "Backward" "goal", .meth "Backward" "word", .cls "Straight", .mkr "Straight", .noat "Straight" "told_number", .meth "Straight" "goal", .cls "Walk", .mkr "Walk", .noat "Walk" "here", .noat "Walk" "number", .noat "Walk" "lost", .noat "Walk" "held", .noat "Walk" "due", .noat "Walk" "rows_told", .meth "Walk" "clock", .meth "Walk" "tell_row", .meth "Walk" "arrive", .meth "Walk" "catch_up", .meth "Walk" "let_on", .meth "Walk" "take", .cls "Aim", .mkr "Aim", .noat "Aim" "clock_told", .noat "Aim" "look", .noat "Aim" "cue", .noat "Aim" "length", .meth "Onward" "word", .meth "Straight" "word"]
def exL (K : PySem.W.Frag) : List Bool := [He.tupB K "SIDES" [.str "blue", .str "bright", .str "green", .str "pan", .str "red", .str "tilt"],
  L2.insB K "Cue",
  L2.insB K "Part",
  L2.mkOB K "Onward",
  L2.mkOB K "Backward",
  decide (He.ma K (He.ga K "Onward") "word" = He.ma K (He.ga K "March") "word"),
  decide (He.ma K (He.ga K "Straight") "word" = He.ma K (He.ga K "March") "word"),
  decide (PySem.W.kitOne K (.type "NoneType") (.ref (He.ga K "Cue")) = some false),
  L2.excB K "Late",
  decide (PySem.W.kitOne K (.ref (He.ga K "Late")) (.type "ValueError") = some true),
  decide (PySem.W.kitOne K (.ref (He.ga K "Late")) (.ref (He.ga K "Late")) = some true),
  decide (PySem.W.kitOne K (.ref (He.ga K "Late")) (.ref (He.ga K "NoList")) = some false),
  decide (PySem.W.kitOne K (.ref (He.ga K "Late")) (.ref (He.ga K "NoCue")) = some false),
  L2.excB K "NoList",
  decide (PySem.W.kitOne K (.ref (He.ga K "NoList")) (.type "ValueError") = some true),
  decide (PySem.W.kitOne K (.ref (He.ga K "NoList")) (.ref (He.ga K "Late")) = some false),
  decide (PySem.W.kitOne K (.ref (He.ga K "NoList")) (.ref (He.ga K "NoList")) = some true),
  decide (PySem.W.kitOne K (.ref (He.ga K "NoList")) (.ref (He.ga K "NoCue")) = some false)]
def exB (K : PySem.W.Frag) : Bool := (exL K).all id
/-- what the top leaves -/
structure Txt (K : PySem.W.Frag) (mg : Str → Option Value) : Prop where
  c : He.SaysD fa fn K
  hp : ∃ h : Heap, K.In h ∧ h.Ns mainGlobals mg
  x : exB K = true
section
variable {K : PySem.W.Frag} {mg : Str → Option Value}
theorem tup_SIDES (T : Txt K mg) (H : L2.Hp) : L2.SqT K H (He.ga K "SIDES") [L2.V.str "blue", L2.V.str "bright", L2.V.str "green", L2.V.str "pan", L2.V.str "red", L2.V.str "tilt"] := He.tupB_ok (List.all_eq_true.mp T.x _ (List.mem_of_getElem? (i := 0) rfl)) H
theorem insf_Cue (T : Txt K mg) : L2.insB K "Cue" = true := (List.all_eq_true.mp T.x _ (List.mem_of_getElem? (i := 1) rfl))
theorem insf_Part (T : Txt K mg) : L2.insB K "Part" = true := (List.all_eq_true.mp T.x _ (List.mem_of_getElem? (i := 2) rfl))
theorem mko_Onward (T : Txt K mg) : L2.MkO K (He.ga K "Onward") := L2.mkOB_ok (List.all_eq_true.mp T.x _ (List.mem_of_getElem? (i := 3) rfl))
theorem mko_Backward (T : Txt K mg) : L2.MkO K (He.ga K "Backward") := L2.mkOB_ok (List.all_eq_true.mp T.x _ (List.mem_of_getElem? (i := 4) rfl))
theorem sam_Onward_word (T : Txt K mg) : He.ma K (He.ga K "Onward") "word" = He.ma K (He.ga K "March") "word" := of_decide_eq_true (List.all_eq_true.mp T.x _ (List.mem_of_getElem? (i := 5) rfl))
theorem sam_Straight_word (T : Txt K mg) : He.ma K (He.ga K "Straight") "word" = He.ma K (He.ga K "March") "word" := of_decide_eq_true (List.all_eq_true.mp T.x _ (List.mem_of_getElem? (i := 6) rfl))
theorem kitC_none (T : Txt K mg) : PySem.W.kitOne K (.type "NoneType") (.ref (He.ga K "Cue")) = some false := of_decide_eq_true (List.all_eq_true.mp T.x _ (List.mem_of_getElem? (i := 7) rfl))
theorem excC_Late (T : Txt K mg) : L2.ExcC K (He.ga K "Late") := L2.excB_ok (List.all_eq_true.mp T.x _ (List.mem_of_getElem? (i := 8) rfl))
theorem is_Late_ValueError (T : Txt K mg) : PySem.W.kitOne K (.ref (He.ga K "Late")) (.type "ValueError") = some true := of_decide_eq_true (List.all_eq_true.mp T.x _ (List.mem_of_getElem? (i := 9) rfl))
theorem is_Late_Late (T : Txt K mg) : PySem.W.kitOne K (.ref (He.ga K "Late")) (.ref (He.ga K "Late")) = some true := of_decide_eq_true (List.all_eq_true.mp T.x _ (List.mem_of_getElem? (i := 10) rfl))
theorem is_Late_NoList (T : Txt K mg) : PySem.W.kitOne K (.ref (He.ga K "Late")) (.ref (He.ga K "NoList")) = some false := of_decide_eq_true (List.all_eq_true.mp T.x _ (List.mem_of_getElem? (i := 11) rfl))
theorem is_Late_NoCue (T : Txt K mg) : PySem.W.kitOne K (.ref (He.ga K "Late")) (.ref (He.ga K "NoCue")) = some false := of_decide_eq_true (List.all_eq_true.mp T.x _ (List.mem_of_getElem? (i := 12) rfl))
theorem excC_NoList (T : Txt K mg) : L2.ExcC K (He.ga K "NoList") := L2.excB_ok (List.all_eq_true.mp T.x _ (List.mem_of_getElem? (i := 13) rfl))
theorem is_NoList_ValueError (T : Txt K mg) : PySem.W.kitOne K (.ref (He.ga K "NoList")) (.type "ValueError") = some true := of_decide_eq_true (List.all_eq_true.mp T.x _ (List.mem_of_getElem? (i := 14) rfl))
theorem is_NoList_Late (T : Txt K mg) : PySem.W.kitOne K (.ref (He.ga K "NoList")) (.ref (He.ga K "Late")) = some false := of_decide_eq_true (List.all_eq_true.mp T.x _ (List.mem_of_getElem? (i := 15) rfl))
theorem is_NoList_NoList (T : Txt K mg) : PySem.W.kitOne K (.ref (He.ga K "NoList")) (.ref (He.ga K "NoList")) = some true := of_decide_eq_true (List.all_eq_true.mp T.x _ (List.mem_of_getElem? (i := 16) rfl))
theorem is_NoList_NoCue (T : Txt K mg) : PySem.W.kitOne K (.ref (He.ga K "NoList")) (.ref (He.ga K "NoCue")) = some false := of_decide_eq_true (List.all_eq_true.mp T.x _ (List.mem_of_getElem? (i := 17) rfl))
theorem glo_is_time (T : Txt K mg) : mg "is_time" = some (.ref (He.ga K "is_time")) := by
  obtain ⟨h, X, G⟩ := T.hp
  exact He.glo_ok X G (T.c.fact 0 rfl)
theorem glo_is_amid (T : Txt K mg) : mg "is_amid" = some (.ref (He.ga K "is_amid")) := by
  obtain ⟨h, X, G⟩ := T.hp
  exact He.glo_ok X G (T.c.fact 1 rfl)
theorem glo_is_lamp (T : Txt K mg) : mg "is_lamp" = some (.ref (He.ga K "is_lamp")) := by
  obtain ⟨h, X, G⟩ := T.hp
  exact He.glo_ok X G (T.c.fact 2 rfl)
theorem glo_is_slot (T : Txt K mg) : mg "is_slot" = some (.ref (He.ga K "is_slot")) := by
  obtain ⟨h, X, G⟩ := T.hp
  exact He.glo_ok X G (T.c.fact 3 rfl)
theorem glo_is_worth (T : Txt K mg) : mg "is_worth" = some (.ref (He.ga K "is_worth")) := by
  obtain ⟨h, X, G⟩ := T.hp
  exact He.glo_ok X G (T.c.fact 4 rfl)
theorem glo_look_at_slots (T : Txt K mg) : mg "look_at_slots" = some (.ref (He.ga K "look_at_slots")) := by
  obtain ⟨h, X, G⟩ := T.hp
  exact He.glo_ok X G (T.c.fact 5 rfl)
theorem glo_look_at_worths (T : Txt K mg) : mg "look_at_worths" = some (.ref (He.ga K "look_at_worths")) := by
  obtain ⟨h, X, G⟩ := T.hp
  exact He.glo_ok X G (T.c.fact 6 rfl)
theorem glo_are_parts (T : Txt K mg) : mg "are_parts" = some (.ref (He.ga K "are_parts")) := by
  obtain ⟨h, X, G⟩ := T.hp
  exact He.glo_ok X G (T.c.fact 7 rfl)
theorem glo_cue_list (T : Txt K mg) : mg "cue_list" = some (.ref (He.ga K "cue_list")) := by
  obtain ⟨h, X, G⟩ := T.hp
  exact He.glo_ok X G (T.c.fact 8 rfl)
theorem glo_good_number (T : Txt K mg) : mg "good_number" = some (.ref (He.ga K "good_number")) := by
  obtain ⟨h, X, G⟩ := T.hp
  exact He.glo_ok X G (T.c.fact 9 rfl)
theorem glo_cue_at (T : Txt K mg) : mg "cue_at" = some (.ref (He.ga K "cue_at")) := by
  obtain ⟨h, X, G⟩ := T.hp
  exact He.glo_ok X G (T.c.fact 10 rfl)
theorem glo_above (T : Txt K mg) : mg "above" = some (.ref (He.ga K "above")) := by
  obtain ⟨h, X, G⟩ := T.hp
  exact He.glo_ok X G (T.c.fact 11 rfl)
theorem glo_below (T : Txt K mg) : mg "below" = some (.ref (He.ga K "below")) := by
  obtain ⟨h, X, G⟩ := T.hp
  exact He.glo_ok X G (T.c.fact 12 rfl)
theorem glo_put_in_look (T : Txt K mg) : mg "put_in_look" = some (.ref (He.ga K "put_in_look")) := by
  obtain ⟨h, X, G⟩ := T.hp
  exact He.glo_ok X G (T.c.fact 13 rfl)
theorem glo_carried (T : Txt K mg) : mg "carried" = some (.ref (He.ga K "carried")) := by
  obtain ⟨h, X, G⟩ := T.hp
  exact He.glo_ok X G (T.c.fact 14 rfl)
theorem glo_shown (T : Txt K mg) : mg "shown" = some (.ref (He.ga K "shown")) := by
  obtain ⟨h, X, G⟩ := T.hp
  exact He.glo_ok X G (T.c.fact 15 rfl)
theorem glo_march_of (T : Txt K mg) : mg "march_of" = some (.ref (He.ga K "march_of")) := by
  obtain ⟨h, X, G⟩ := T.hp
  exact He.glo_ok X G (T.c.fact 16 rfl)
theorem glo_look_at_ticks (T : Txt K mg) : mg "look_at_ticks" = some (.ref (He.ga K "look_at_ticks")) := by
  obtain ⟨h, X, G⟩ := T.hp
  exact He.glo_ok X G (T.c.fact 17 rfl)
theorem glo_rows_of (T : Txt K mg) : mg "rows_of" = some (.ref (He.ga K "rows_of")) := by
  obtain ⟨h, X, G⟩ := T.hp
  exact He.glo_ok X G (T.c.fact 18 rfl)
theorem glo_slots_of (T : Txt K mg) : mg "slots_of" = some (.ref (He.ga K "slots_of")) := by
  obtain ⟨h, X, G⟩ := T.hp
  exact He.glo_ok X G (T.c.fact 19 rfl)
theorem glo_told (T : Txt K mg) : mg "told" = some (.ref (He.ga K "told")) := by
  obtain ⟨h, X, G⟩ := T.hp
  exact He.glo_ok X G (T.c.fact 20 rfl)
theorem glo__law_cell_at (T : Txt K mg) : mg "_law_cell_at" = some (.ref (He.ga K "_law_cell_at")) := by
  obtain ⟨h, X, G⟩ := T.hp
  exact He.glo_ok X G (T.c.fact 21 rfl)
theorem glo__law_whole (T : Txt K mg) : mg "_law_whole" = some (.ref (He.ga K "_law_whole")) := by
  obtain ⟨h, X, G⟩ := T.hp
  exact He.glo_ok X G (T.c.fact 22 rfl)
theorem glo__law_mixed (T : Txt K mg) : mg "_law_mixed" = some (.ref (He.ga K "_law_mixed")) := by
  obtain ⟨h, X, G⟩ := T.hp
  exact He.glo_ok X G (T.c.fact 23 rfl)
theorem glo__law_time (T : Txt K mg) : mg "_law_time" = some (.ref (He.ga K "_law_time")) := by
  obtain ⟨h, X, G⟩ := T.hp
  exact He.glo_ok X G (T.c.fact 24 rfl)
theorem glo__law_numbers (T : Txt K mg) : mg "_law_numbers" = some (.ref (He.ga K "_law_numbers")) := by
  obtain ⟨h, X, G⟩ := T.hp
  exact He.glo_ok X G (T.c.fact 25 rfl)
theorem glo__law_deeds (T : Txt K mg) : mg "_law_deeds" = some (.ref (He.ga K "_law_deeds")) := by
  obtain ⟨h, X, G⟩ := T.hp
  exact He.glo_ok X G (T.c.fact 26 rfl)
theorem glo__law_fallen (T : Txt K mg) : mg "_law_fallen" = some (.ref (He.ga K "_law_fallen")) := by
  obtain ⟨h, X, G⟩ := T.hp
  exact He.glo_ok X G (T.c.fact 27 rfl)
theorem glo__law_truths (T : Txt K mg) : mg "_law_truths" = some (.ref (He.ga K "_law_truths")) := by
  obtain ⟨h, X, G⟩ := T.hp
  exact He.glo_ok X G (T.c.fact 28 rfl)
theorem glo_law (T : Txt K mg) : mg "law" = some (.ref (He.ga K "law")) := by
  obtain ⟨h, X, G⟩ := T.hp
  exact He.glo_ok X G (T.c.fact 29 rfl)
theorem glo_Part (T : Txt K mg) : mg "Part" = some (.ref (He.ga K "Part")) := by
  obtain ⟨h, X, G⟩ := T.hp
  exact He.glo_ok X G (T.c.fact 30 rfl)
theorem glo_Cue (T : Txt K mg) : mg "Cue" = some (.ref (He.ga K "Cue")) := by
  obtain ⟨h, X, G⟩ := T.hp
  exact He.glo_ok X G (T.c.fact 31 rfl)
theorem glo_Onward (T : Txt K mg) : mg "Onward" = some (.ref (He.ga K "Onward")) := by
  obtain ⟨h, X, G⟩ := T.hp
  exact He.glo_ok X G (T.c.fact 32 rfl)
theorem glo_Backward (T : Txt K mg) : mg "Backward" = some (.ref (He.ga K "Backward")) := by
  obtain ⟨h, X, G⟩ := T.hp
  exact He.glo_ok X G (T.c.fact 33 rfl)
theorem glo_Straight (T : Txt K mg) : mg "Straight" = some (.ref (He.ga K "Straight")) := by
  obtain ⟨h, X, G⟩ := T.hp
  exact He.glo_ok X G (T.c.fact 34 rfl)
theorem glo_Walk (T : Txt K mg) : mg "Walk" = some (.ref (He.ga K "Walk")) := by
  obtain ⟨h, X, G⟩ := T.hp
  exact He.glo_ok X G (T.c.fact 35 rfl)
theorem glo_Aim (T : Txt K mg) : mg "Aim" = some (.ref (He.ga K "Aim")) := by
  obtain ⟨h, X, G⟩ := T.hp
  exact He.glo_ok X G (T.c.fact 36 rfl)
theorem glo_Late (T : Txt K mg) : mg "Late" = some (.ref (He.ga K "Late")) := by
  obtain ⟨h, X, G⟩ := T.hp
  exact He.glo_ok X G (T.c.fact 37 rfl)
theorem glo_LampError (T : Txt K mg) : mg "LampError" = some (.ref (He.ga K "LampError")) := by
  obtain ⟨h, X, G⟩ := T.hp
  exact He.glo_ok X G (T.c.fact 38 rfl)
theorem glo_NoList (T : Txt K mg) : mg "NoList" = some (.ref (He.ga K "NoList")) := by
  obtain ⟨h, X, G⟩ := T.hp
  exact He.glo_ok X G (T.c.fact 39 rfl)
theorem glo_NoCue (T : Txt K mg) : mg "NoCue" = some (.ref (He.ga K "NoCue")) := by
  obtain ⟨h, X, G⟩ := T.hp
  exact He.glo_ok X G (T.c.fact 40 rfl)
theorem glo_SIDES (T : Txt K mg) : mg "SIDES" = some (.ref (He.ga K "SIDES")) := by
  obtain ⟨h, X, G⟩ := T.hp
  exact He.glo_ok X G (T.c.fact 41 rfl)
theorem free_len (T : Txt K mg) : mg "len" = none := by
  obtain ⟨h, X, G⟩ := T.hp
  exact He.free_ok X G (T.c.fact 42 rfl)
theorem free_min (T : Txt K mg) : mg "min" = none := by
  obtain ⟨h, X, G⟩ := T.hp
  exact He.free_ok X G (T.c.fact 43 rfl)
theorem free_max (T : Txt K mg) : mg "max" = none := by
  obtain ⟨h, X, G⟩ := T.hp
  exact He.free_ok X G (T.c.fact 44 rfl)
theorem free_isinstance (T : Txt K mg) : mg "isinstance" = none := by
  obtain ⟨h, X, G⟩ := T.hp
  exact He.free_ok X G (T.c.fact 45 rfl)
theorem free_int (T : Txt K mg) : mg "int" = none := by
  obtain ⟨h, X, G⟩ := T.hp
  exact He.free_ok X G (T.c.fact 46 rfl)
theorem free_bool (T : Txt K mg) : mg "bool" = none := by
  obtain ⟨h, X, G⟩ := T.hp
  exact He.free_ok X G (T.c.fact 47 rfl)
theorem free_range (T : Txt K mg) : mg "range" = none := by
  obtain ⟨h, X, G⟩ := T.hp
  exact He.free_ok X G (T.c.fact 48 rfl)
theorem free_list (T : Txt K mg) : mg "list" = none := by
  obtain ⟨h, X, G⟩ := T.hp
  exact He.free_ok X G (T.c.fact 49 rfl)
theorem free_dict (T : Txt K mg) : mg "dict" = none := by
  obtain ⟨h, X, G⟩ := T.hp
  exact He.free_ok X G (T.c.fact 50 rfl)
theorem free_str (T : Txt K mg) : mg "str" = none := by
  obtain ⟨h, X, G⟩ := T.hp
  exact He.free_ok X G (T.c.fact 51 rfl)
theorem free_tuple (T : Txt K mg) : mg "tuple" = none := by
  obtain ⟨h, X, G⟩ := T.hp
  exact He.free_ok X G (T.c.fact 52 rfl)
theorem free_reversed (T : Txt K mg) : mg "reversed" = none := by
  obtain ⟨h, X, G⟩ := T.hp
  exact He.free_ok X G (T.c.fact 53 rfl)
theorem free_ValueError (T : Txt K mg) : mg "ValueError" = none := by
  obtain ⟨h, X, G⟩ := T.hp
  exact He.free_ok X G (T.c.fact 54 rfl)
theorem int_MOST_times (T : Txt K mg) : ∃ t, mg "MOST_times" = some (.int 1000000000 t) := by
  obtain ⟨h, X, G⟩ := T.hp
  exact He.int_ok X G (T.c.fact 55 rfl)
theorem str_LETTERS (T : Txt K mg) : ∃ t, mg "LETTERS" = some (.str "abcdefghijklmnopqrstuvwxyz" t) := by
  obtain ⟨h, X, G⟩ := T.hp
  exact He.str_ok X G (T.c.fact 56 rfl)
theorem int_MOST_cues (T : Txt K mg) : ∃ t, mg "MOST_cues" = some (.int 1000000000 t) := by
  obtain ⟨h, X, G⟩ := T.hp
  exact He.int_ok X G (T.c.fact 57 rfl)
theorem int_BACK (T : Txt K mg) : ∃ t, mg "BACK" = some (.int 1000 t) := by
  obtain ⟨h, X, G⟩ := T.hp
  exact He.int_ok X G (T.c.fact 58 rfl)
theorem fact_exc_Late (T : Txt K mg) : (He.Fa.ok K (.exc "Late")) = true := T.c.fact 59 rfl
theorem fact_exc_NoList (T : Txt K mg) : (He.Fa.ok K (.exc "NoList")) = true := T.c.fact 60 rfl
theorem fact_exm_Late_LampError (T : Txt K mg) : (He.Fa.ok K (.exm "Late" "LampError" true)) = true := T.c.fact 61 rfl
theorem fact_exm_NoList_LampError (T : Txt K mg) : (He.Fa.ok K (.exm "NoList" "LampError" true)) = true := T.c.fact 62 rfl
theorem fact_cls_Part (T : Txt K mg) : (He.Fa.ok K (.cls "Part")) = true := T.c.fact 63 rfl
theorem fact_mk_Part (T : Txt K mg) : (He.Fa.ok K (.mkr "Part")) = true := T.c.fact 64 rfl
theorem fact_na_Part_tells (T : Txt K mg) : (He.Fa.ok K (.noat "Part" "tells")) = true := T.c.fact 65 rfl
theorem fact_na_Part_alone (T : Txt K mg) : (He.Fa.ok K (.noat "Part" "alone")) = true := T.c.fact 66 rfl
theorem fact_na_Part_rise (T : Txt K mg) : (He.Fa.ok K (.noat "Part" "rise")) = true := T.c.fact 67 rfl
theorem fact_na_Part_fall (T : Txt K mg) : (He.Fa.ok K (.noat "Part" "fall")) = true := T.c.fact 68 rfl
theorem fact_na_Part_wait (T : Txt K mg) : (He.Fa.ok K (.noat "Part" "wait")) = true := T.c.fact 69 rfl
theorem fact_m_Part_slots (T : Txt K mg) : (He.Fa.ok K (.meth "Part" "slots")) = true := T.c.fact 70 rfl
theorem fact_cls_Cue (T : Txt K mg) : (He.Fa.ok K (.cls "Cue")) = true := T.c.fact 71 rfl
theorem fact_mk_Cue (T : Txt K mg) : (He.Fa.ok K (.mkr "Cue")) = true := T.c.fact 72 rfl
theorem fact_na_Cue_number (T : Txt K mg) : (He.Fa.ok K (.noat "Cue" "number")) = true := T.c.fact 73 rfl
theorem fact_na_Cue_parts (T : Txt K mg) : (He.Fa.ok K (.noat "Cue" "parts")) = true := T.c.fact 74 rfl
theorem fact_na_Cue_stops (T : Txt K mg) : (He.Fa.ok K (.noat "Cue" "stops")) = true := T.c.fact 75 rfl
theorem fact_na_Cue_follow (T : Txt K mg) : (He.Fa.ok K (.noat "Cue" "follow")) = true := T.c.fact 76 rfl
theorem fact_cls_Onward (T : Txt K mg) : (He.Fa.ok K (.cls "Onward")) = true := T.c.fact 77 rfl
theorem fact_m_Onward_goal (T : Txt K mg) : (He.Fa.ok K (.meth "Onward" "goal")) = true := T.c.fact 78 rfl
theorem fact_cls_Backward (T : Txt K mg) : (He.Fa.ok K (.cls "Backward")) = true := T.c.fact 79 rfl
theorem fact_m_Backward_goal (T : Txt K mg) : (He.Fa.ok K (.meth "Backward" "goal")) = true := T.c.fact 80 rfl
theorem fact_m_Backward_word (T : Txt K mg) : (He.Fa.ok K (.meth "Backward" "word")) = true := T.c.fact 81 rfl
theorem fact_cls_Straight (T : Txt K mg) : (He.Fa.ok K (.cls "Straight")) = true := T.c.fact 82 rfl
theorem fact_mk_Straight (T : Txt K mg) : (He.Fa.ok K (.mkr "Straight")) = true := T.c.fact 83 rfl
theorem fact_na_Straight_told_number (T : Txt K mg) : (He.Fa.ok K (.noat "Straight" "told_number")) = true := T.c.fact 84 rfl
theorem fact_m_Straight_goal (T : Txt K mg) : (He.Fa.ok K (.meth "Straight" "goal")) = true := T.c.fact 85 rfl
theorem fact_cls_Walk (T : Txt K mg) : (He.Fa.ok K (.cls "Walk")) = true := T.c.fact 86 rfl
theorem fact_mk_Walk (T : Txt K mg) : (He.Fa.ok K (.mkr "Walk")) = true := T.c.fact 87 rfl
theorem fact_na_Walk_here (T : Txt K mg) : (He.Fa.ok K (.noat "Walk" "here")) = true := T.c.fact 88 rfl
theorem fact_na_Walk_number (T : Txt K mg) : (He.Fa.ok K (.noat "Walk" "number")) = true := T.c.fact 89 rfl
theorem fact_na_Walk_lost (T : Txt K mg) : (He.Fa.ok K (.noat "Walk" "lost")) = true := T.c.fact 90 rfl
theorem fact_na_Walk_held (T : Txt K mg) : (He.Fa.ok K (.noat "Walk" "held")) = true := T.c.fact 91 rfl
theorem fact_na_Walk_due (T : Txt K mg) : (He.Fa.ok K (.noat "Walk" "due")) = true := T.c.fact 92 rfl
theorem fact_na_Walk_rows_told (T : Txt K mg) : (He.Fa.ok K (.noat "Walk" "rows_told")) = true := T.c.fact 93 rfl
theorem fact_m_Walk_clock (T : Txt K mg) : (He.Fa.ok K (.meth "Walk" "clock")) = true := T.c.fact 94 rfl
theorem fact_m_Walk_tell_row (T : Txt K mg) : (He.Fa.ok K (.meth "Walk" "tell_row")) = true := T.c.fact 95 rfl
theorem fact_m_Walk_arrive (T : Txt K mg) : (He.Fa.ok K (.meth "Walk" "arrive")) = true := T.c.fact 96 rfl
theorem fact_m_Walk_catch_up (T : Txt K mg) : (He.Fa.ok K (.meth "Walk" "catch_up")) = true := T.c.fact 97 rfl
theorem fact_m_Walk_let_on (T : Txt K mg) : (He.Fa.ok K (.meth "Walk" "let_on")) = true := T.c.fact 98 rfl
theorem fact_m_Walk_take (T : Txt K mg) : (He.Fa.ok K (.meth "Walk" "take")) = true := T.c.fact 99 rfl
theorem fact_cls_Aim (T : Txt K mg) : (He.Fa.ok K (.cls "Aim")) = true := T.c.fact 100 rfl
theorem fact_mk_Aim (T : Txt K mg) : (He.Fa.ok K (.mkr "Aim")) = true := T.c.fact 101 rfl
theorem fact_na_Aim_clock_told (T : Txt K mg) : (He.Fa.ok K (.noat "Aim" "clock_told")) = true := T.c.fact 102 rfl
theorem fact_na_Aim_look (T : Txt K mg) : (He.Fa.ok K (.noat "Aim" "look")) = true := T.c.fact 103 rfl
theorem fact_na_Aim_cue (T : Txt K mg) : (He.Fa.ok K (.noat "Aim" "cue")) = true := T.c.fact 104 rfl
theorem fact_na_Aim_length (T : Txt K mg) : (He.Fa.ok K (.noat "Aim" "length")) = true := T.c.fact 105 rfl
theorem fact_mi_Onward_word (T : Txt K mg) : (He.Fa.ok K (.meth "Onward" "word")) = true := T.c.fact 106 rfl
theorem fact_mi_Straight_word (T : Txt K mg) : (He.Fa.ok K (.meth "Straight" "word")) = true := T.c.fact 107 rfl
end
section
variable {K : PySem.W.Frag} {mg : Str → Option Value}
theorem exc_Late (T : Txt K mg) : PySem.W.excIn K (He.ga K "Late") He.veBase "ValueError.__new__" = true ∧ PySem.W.keepIn K (.ref (He.ga K "Late")) = true ∧ PySem.W.subIn K (.ref (He.ga K "Late")) (.type "BaseException") = some true ∧ PySem.W.typeIn K (.ref (He.ga K "Late")) = some (.type "type") := He.exc_ok (fact_exc_Late T)
theorem exc_NoList (T : Txt K mg) : PySem.W.excIn K (He.ga K "NoList") He.veBase "ValueError.__new__" = true ∧ PySem.W.keepIn K (.ref (He.ga K "NoList")) = true ∧ PySem.W.subIn K (.ref (He.ga K "NoList")) (.type "BaseException") = some true ∧ PySem.W.typeIn K (.ref (He.ga K "NoList")) = some (.type "type") := He.exc_ok (fact_exc_NoList T)
theorem exm_Late_LampError (T : Txt K mg) : PySem.W.exmOne K (.ref (He.ga K "Late")) (.ref (He.ga K "LampError")) = some true := He.exm_ok (fact_exm_Late_LampError T)
theorem exm_NoList_LampError (T : Txt K mg) : PySem.W.exmOne K (.ref (He.ga K "NoList")) (.ref (He.ga K "LampError")) = some true := He.exm_ok (fact_exm_NoList_LampError T)
theorem cls_Part (T : Txt K mg) : Cls K (He.ga K "Part") := He.cls_ok (fact_cls_Part T)
theorem mk_Part (T : Txt K mg) : Mk K (He.ga K "Part") (He.ma K (He.ga K "Part") "__init__") := He.mkr_ok (fact_mk_Part T)
theorem na_Part_tells (T : Txt K mg) : NoAttr K (He.ga K "Part") "tells" := He.noat_ok (fact_na_Part_tells T)
theorem na_Part_alone (T : Txt K mg) : NoAttr K (He.ga K "Part") "alone" := He.noat_ok (fact_na_Part_alone T)
theorem na_Part_rise (T : Txt K mg) : NoAttr K (He.ga K "Part") "rise" := He.noat_ok (fact_na_Part_rise T)
theorem na_Part_fall (T : Txt K mg) : NoAttr K (He.ga K "Part") "fall" := He.noat_ok (fact_na_Part_fall T)
theorem na_Part_wait (T : Txt K mg) : NoAttr K (He.ga K "Part") "wait" := He.noat_ok (fact_na_Part_wait T)
theorem m_Part_slots (T : Txt K mg) : Meth K (He.ga K "Part") "slots" (He.ma K (He.ga K "Part") "slots") := He.meth_ok (fact_m_Part_slots T)
theorem cls_Cue (T : Txt K mg) : Cls K (He.ga K "Cue") := He.cls_ok (fact_cls_Cue T)
theorem mk_Cue (T : Txt K mg) : Mk K (He.ga K "Cue") (He.ma K (He.ga K "Cue") "__init__") := He.mkr_ok (fact_mk_Cue T)
theorem na_Cue_number (T : Txt K mg) : NoAttr K (He.ga K "Cue") "number" := He.noat_ok (fact_na_Cue_number T)
theorem na_Cue_parts (T : Txt K mg) : NoAttr K (He.ga K "Cue") "parts" := He.noat_ok (fact_na_Cue_parts T)
theorem na_Cue_stops (T : Txt K mg) : NoAttr K (He.ga K "Cue") "stops" := He.noat_ok (fact_na_Cue_stops T)
theorem na_Cue_follow (T : Txt K mg) : NoAttr K (He.ga K "Cue") "follow" := He.noat_ok (fact_na_Cue_follow T)
theorem cls_Onward (T : Txt K mg) : Cls K (He.ga K "Onward") := He.cls_ok (fact_cls_Onward T)
theorem m_Onward_goal (T : Txt K mg) : Meth K (He.ga K "Onward") "goal" (He.ma K (He.ga K "Onward") "goal") := He.meth_ok (fact_m_Onward_goal T)
theorem cls_Backward (T : Txt K mg) : Cls K (He.ga K "Backward") := He.cls_ok (fact_cls_Backward T)
theorem m_Backward_goal (T : Txt K mg) : Meth K (He.ga K "Backward") "goal" (He.ma K (He.ga K "Backward") "goal") := He.meth_ok (fact_m_Backward_goal T)
theorem m_Backward_word (T : Txt K mg) : Meth K (He.ga K "Backward") "word" (He.ma K (He.ga K "Backward") "word") := He.meth_ok (fact_m_Backward_word T)
theorem cls_Straight (T : Txt K mg) : Cls K (He.ga K "Straight") := He.cls_ok (fact_cls_Straight T)
theorem mk_Straight (T : Txt K mg) : Mk K (He.ga K "Straight") (He.ma K (He.ga K "Straight") "__init__") := He.mkr_ok (fact_mk_Straight T)
theorem na_Straight_told_number (T : Txt K mg) : NoAttr K (He.ga K "Straight") "told_number" := He.noat_ok (fact_na_Straight_told_number T)
theorem m_Straight_goal (T : Txt K mg) : Meth K (He.ga K "Straight") "goal" (He.ma K (He.ga K "Straight") "goal") := He.meth_ok (fact_m_Straight_goal T)
theorem cls_Walk (T : Txt K mg) : Cls K (He.ga K "Walk") := He.cls_ok (fact_cls_Walk T)
theorem mk_Walk (T : Txt K mg) : Mk K (He.ga K "Walk") (He.ma K (He.ga K "Walk") "__init__") := He.mkr_ok (fact_mk_Walk T)
theorem na_Walk_here (T : Txt K mg) : NoAttr K (He.ga K "Walk") "here" := He.noat_ok (fact_na_Walk_here T)
theorem na_Walk_number (T : Txt K mg) : NoAttr K (He.ga K "Walk") "number" := He.noat_ok (fact_na_Walk_number T)
theorem na_Walk_lost (T : Txt K mg) : NoAttr K (He.ga K "Walk") "lost" := He.noat_ok (fact_na_Walk_lost T)
theorem na_Walk_held (T : Txt K mg) : NoAttr K (He.ga K "Walk") "held" := He.noat_ok (fact_na_Walk_held T)
theorem na_Walk_due (T : Txt K mg) : NoAttr K (He.ga K "Walk") "due" := He.noat_ok (fact_na_Walk_due T)
theorem na_Walk_rows_told (T : Txt K mg) : NoAttr K (He.ga K "Walk") "rows_told" := He.noat_ok (fact_na_Walk_rows_told T)
theorem m_Walk_clock (T : Txt K mg) : Meth K (He.ga K "Walk") "clock" (He.ma K (He.ga K "Walk") "clock") := He.meth_ok (fact_m_Walk_clock T)
theorem m_Walk_tell_row (T : Txt K mg) : Meth K (He.ga K "Walk") "tell_row" (He.ma K (He.ga K "Walk") "tell_row") := He.meth_ok (fact_m_Walk_tell_row T)
theorem m_Walk_arrive (T : Txt K mg) : Meth K (He.ga K "Walk") "arrive" (He.ma K (He.ga K "Walk") "arrive") := He.meth_ok (fact_m_Walk_arrive T)
theorem m_Walk_catch_up (T : Txt K mg) : Meth K (He.ga K "Walk") "catch_up" (He.ma K (He.ga K "Walk") "catch_up") := He.meth_ok (fact_m_Walk_catch_up T)
theorem m_Walk_let_on (T : Txt K mg) : Meth K (He.ga K "Walk") "let_on" (He.ma K (He.ga K "Walk") "let_on") := He.meth_ok (fact_m_Walk_let_on T)
theorem m_Walk_take (T : Txt K mg) : Meth K (He.ga K "Walk") "take" (He.ma K (He.ga K "Walk") "take") := He.meth_ok (fact_m_Walk_take T)
theorem cls_Aim (T : Txt K mg) : Cls K (He.ga K "Aim") := He.cls_ok (fact_cls_Aim T)
theorem mk_Aim (T : Txt K mg) : Mk K (He.ga K "Aim") (He.ma K (He.ga K "Aim") "__init__") := He.mkr_ok (fact_mk_Aim T)
theorem na_Aim_clock_told (T : Txt K mg) : NoAttr K (He.ga K "Aim") "clock_told" := He.noat_ok (fact_na_Aim_clock_told T)
theorem na_Aim_look (T : Txt K mg) : NoAttr K (He.ga K "Aim") "look" := He.noat_ok (fact_na_Aim_look T)
theorem na_Aim_cue (T : Txt K mg) : NoAttr K (He.ga K "Aim") "cue" := He.noat_ok (fact_na_Aim_cue T)
theorem na_Aim_length (T : Txt K mg) : NoAttr K (He.ga K "Aim") "length" := He.noat_ok (fact_na_Aim_length T)
theorem mi_Onward_word (T : Txt K mg) : Meth K (He.ga K "Onward") "word" (He.ma K (He.ga K "Onward") "word") := He.meth_ok (fact_mi_Onward_word T)
theorem mi_Straight_word (T : Txt K mg) : Meth K (He.ga K "Straight") "word" (He.ma K (He.ga K "Straight") "word") := He.meth_ok (fact_mi_Straight_word T)
theorem ins_Cue (T : Txt K mg) : C8.InsC K (He.ga K "Cue") := L2.insB_ok (cls_Cue T) (insf_Cue T)
theorem ins_Part (T : Txt K mg) : C8.InsC K (He.ga K "Part") := L2.insB_ok (cls_Part T) (insf_Part T)
theorem m_Onward_word (T : Txt K mg) : Meth K (He.ga K "Onward") "word" (He.ma K (He.ga K "March") "word") := by
  rw [← sam_Onward_word T]
  exact mi_Onward_word T
theorem m_Straight_word (T : Txt K mg) : Meth K (He.ga K "Straight") "word" (He.ma K (He.ga K "March") "word") := by
  rw [← sam_Straight_word T]
  exact mi_Straight_word T
end
section
variable {P : Program} {w : World} {K : PySem.W.Frag} {mg : Str → Option Value} {base : Heap}
/-! ### cues that tell nothing -/
abbrev cP (K : PySem.W.Frag) : Addr := He.ga K "Part"
abbrev cC (K : PySem.W.Frag) : Addr := He.ga K "Cue"
abbrev Cu := Int × Option Int
def optV : Option Int → V
  | none => .non
  | some i => .int i
abbrev pfl (t a : Addr) (r f w : Int) : List (Str × V) := [("tells", .ref t), ("alone", .ref a), ("rise", .int r), ("fall", .int f), ("wait", .int w)]
abbrev cfl (n : Int) (l : Addr) (s : Bool) (f : Option Int) : List (Str × V) := [("number", .int n), ("parts", .ref l), ("stops", .bl s), ("follow", optV f)]
structure PartAt (K : PySem.W.Frag) (H : Hp) (x : Addr) : Prop where
  ob : ∃ dx t a r f w, H x = some (.ins (cP K) dx (pfl t a r f w)) ∧ H t = some (.dK []) ∧ H a = some (.dK [])
structure CueAt (K : PySem.W.Frag) (H : Hp) (x : Addr) (c : Cu) : Prop where
  ob : ∃ dx l p, H x = some (.ins (cC K) dx (cfl c.1 l false c.2)) ∧ H l = some (.lst [.ref p]) ∧ PartAt K H p
theorem PartAt.same {K : PySem.W.Frag} {H H' : Hp} {x : Addr} (h : PartAt K H x) (s : Same H H') : PartAt K H' x := by
  obtain ⟨dx, t, a, r, f, w, h1, h2, h3⟩ := h.ob
  exact ⟨⟨dx, t, a, r, f, w, s _ _ h1, s _ _ h2, s _ _ h3⟩⟩
theorem CueAt.same {K : PySem.W.Frag} {H H' : Hp} {x : Addr} {c : Cu} (h : CueAt K H x c) (s : Same H H') : CueAt K H' x c := by
  obtain ⟨dx, l, p, h1, h2, h3⟩ := h.ob
  exact ⟨⟨dx, l, p, s _ _ h1, s _ _ h2, h3.same s⟩⟩
def TimeIn (t : Int) : Prop := 0 ≤ t ∧ t ≤ 1000000000
def spTime : Sp := fun vs H Q _ => ∃ t : Int, vs = [.int t] ∧ TimeIn t ∧ Q (.bl true) H
theorem ok_is_time (T : Txt K mg) : ∃ fd, FnOk P w K mg base CX0 1 (He.fAd K ("is_time", none)) fd ["thing"] spTime ∧ FunD K "is_time" "is_time" (defArgs s_is_time) (defBody s_is_time) (defScope s_is_time) [] [] (He.fAd K ("is_time", none)) fd := by
  obtain ⟨fd, F⟩ := T.c.def_ 0 (d := d_is_time) rfl
  obtain ⟨t_MOST_times, g_MOST_times⟩ := int_MOST_times T
  refine ⟨fd, F.ok sc_is_time (by walk_at "g94len") (fun cdv A outer st H vs Q E hr h => ?_), F⟩
  · obtain ⟨t, rfl, ⟨h0, h1⟩, k⟩ := h
    refine ⟨_, PSs.nox (pss_one (ps_ret (pe_and (pe_callB call_isi (by rfl) (free_isinstance T) (by decide +kernel) (pa_cons (pv 0) (pa_cons (pe_bltn (v := .ty "int") (by rfl) (free_int T) (by decide +kernel) rfl) pa_nil))) (pe_and (pe_not (pe_callB call_isi (by rfl) (free_isinstance T) (by decide +kernel) (pa_cons (pv 0) (pa_cons (pe_bltn (v := .ty "bool") (by rfl) (free_bool T) (by decide +kernel) rfl) pa_nil)))) (pe_one (pe_chain op_le op_le pe_int (pv 0) (pe_glob (v := .int 1000000000) rfl g_MOST_times ⟨_, rfl⟩))))))), ?_⟩
    walk_at "wks"
    refine iteDT h0 ?_
    walk_at "wks"
    exact qT (Q := Q) h1 k
def spAmid : Sp := fun vs H Q _ => ∃ n a b : Int, vs = [.int n, .int a, .int b] ∧ a ≤ n ∧ n ≤ b ∧ Q (.bl true) H
theorem ok_is_amid (T : Txt K mg) : ∃ fd, FnOk P w K mg base CX0 1 (He.fAd K ("is_amid", none)) fd ["thing", "least", "most"] spAmid ∧ FunD K "is_amid" "is_amid" (defArgs s_is_amid) (defBody s_is_amid) (defScope s_is_amid) [] [] (He.fAd K ("is_amid", none)) fd := by
  obtain ⟨fd, F⟩ := T.c.def_ 1 (d := d_is_amid) rfl
  refine ⟨fd, F.ok sc_is_amid (by walk_at "g94len") (fun cdv A outer st H vs Q E hr h => ?_), F⟩
  · obtain ⟨n, a, b, rfl, h0, h1, k⟩ := h
    refine ⟨_, PSs.nox (pss_cons (ps_if (PW.pt (pw_or (pt_not (pt_val (pe_callB call_isi (by rfl) (free_isinstance T) (by decide +kernel) (pa_cons (pv 0) (pa_cons (pe_bltn (v := .ty "int") (by rfl) (free_int T) (by decide +kernel) rfl) pa_nil))))) (pw_or1 (pt_val (pe_callB call_isi (by rfl) (free_isinstance T) (by decide +kernel) (pa_cons (pv 0) (pa_cons (pe_bltn (v := .ty "bool") (by rfl) (free_bool T) (by decide +kernel) rfl) pa_nil))))))) (pss_one (ps_ret pe_bl)) pss_nil)
        (pss_one (ps_ret (pe_chain op_le op_le (pv 1) (pv 0) (pv 2))))), ?_⟩
    walk_at "wks"
    refine iteDT h0 ?_
    walk_at "wks"
    exact qT (Q := Q) h1 k
def spNever : Sp := fun _ _ _ _ => False
theorem ok_is_lamp (T : Txt K mg) : ∃ fd, FnOk P w K mg base CX0 1 (He.fAd K ("is_lamp", none)) fd ["thing"] spNever ∧ FunD K "is_lamp" "is_lamp" (defArgs s_is_lamp) (defBody s_is_lamp) (defScope s_is_lamp) [] [] (He.fAd K ("is_lamp", none)) fd := by
  obtain ⟨fd, F⟩ := T.c.def_ 2 (d := d_is_lamp) rfl
  obtain ⟨t_LETTERS, g_LETTERS⟩ := str_LETTERS T
  refine ⟨fd, F.ok sc_is_lamp (by walk_at "g94len") (fun cdv A outer st H vs Q E hr h => ?_), F⟩
  · exact h.elim
theorem ok_is_slot (T : Txt K mg) : ∃ fd, FnOk P w K mg base CX0 2 (He.fAd K ("is_slot", none)) fd ["thing"] spNever ∧ FunD K "is_slot" "is_slot" (defArgs s_is_slot) (defBody s_is_slot) (defScope s_is_slot) [] [] (He.fAd K ("is_slot", none)) fd := by
  obtain ⟨fd, F⟩ := T.c.def_ 3 (d := d_is_slot) rfl
  refine ⟨fd, F.ok sc_is_slot (by walk_at "g94len") (fun cdv A outer st H vs Q E hr h => ?_), F⟩
  · exact h.elim
theorem ok_is_worth (T : Txt K mg) : ∃ fd, FnOk P w K mg base CX0 2 (He.fAd K ("is_worth", none)) fd ["thing"] spNever ∧ FunD K "is_worth" "is_worth" (defArgs s_is_worth) (defBody s_is_worth) (defScope s_is_worth) [] [] (He.fAd K ("is_worth", none)) fd := by
  obtain ⟨fd, F⟩ := T.c.def_ 4 (d := d_is_worth) rfl
  obtain ⟨t_MOST_cues, g_MOST_cues⟩ := int_MOST_cues T
  refine ⟨fd, F.ok sc_is_worth (by walk_at "g94len") (fun cdv A outer st H vs Q E hr h => ?_), F⟩
  · exact h.elim
def spNone : Sp := fun vs H Q _ => ∃ d : Addr, vs = [.ref d] ∧ H d = some (.dK []) ∧ Q .non H
theorem ok_look_at_slots (T : Txt K mg) : ∃ fd, FnOk P w K mg base CX0 3 (He.fAd K ("look_at_slots", none)) fd ["told"] spNone ∧ FunD K "look_at_slots" "look_at_slots" (defArgs s_look_at_slots) (defBody s_look_at_slots) (defScope s_look_at_slots) [] [] (He.fAd K ("look_at_slots", none)) fd := by
  obtain ⟨fd, F⟩ := T.c.def_ 5 (d := d_look_at_slots) rfl
  obtain ⟨fd_is_slot, G_is_slot, F_is_slot⟩ := ok_is_slot (P := P) (w := w) (base := base) T
  have kp_is_slot := F_is_slot.kp
  have b_is_slot : Binds K fd_is_slot ["thing"] [] := FunD.bindsN F_is_slot (fun _ _ _ _ _ _ us hl => match us, hl with | [_], _ => rfl)
  refine ⟨fd, F.ok sc_look_at_slots (by walk_at "g94len") (fun cdv A outer st H vs Q E hr h => ?_), F⟩
  · obtain ⟨d, rfl, hd, k⟩ := h
    refine ⟨_, PSs.nox (pss_cons (ps_if (pt_not (pt_val (pe_callB call_isi (by rfl) (free_isinstance T) (by decide +kernel) (pa_cons (pv 0) (pa_cons (pe_bltn (v := .ty "dict") (by rfl) (free_dict T) (by decide +kernel) rfl) pa_nil))))) (pss_one ps_never) pss_nil)
        (pss_one (ps_lock (ps_for PassesOwn.never rfl (pi_keys (pv 0)) (pg_name (i := 1) sc_look_at_slots.nd rfl (Or.inl rfl)) (pss_one (ps_if (pt_not (pt_val (pe_call G_is_slot (hr.mono (by decide)) rfl (glo_is_slot T) kp_is_slot b_is_slot .nil pass0 (pa_cons (pv 1) pa_nil)))) (pss_one ps_never) pss_nil)))))), ?_⟩
    walk_at "wks"
    exact lock_keys0 hd (fun od Q q => ⟨_, rfl, q⟩) k
theorem ok_look_at_worths (T : Txt K mg) : ∃ fd, FnOk P w K mg base CX0 3 (He.fAd K ("look_at_worths", none)) fd ["told"] spNone ∧ FunD K "look_at_worths" "look_at_worths" (defArgs s_look_at_worths) (defBody s_look_at_worths) (defScope s_look_at_worths) [] [] (He.fAd K ("look_at_worths", none)) fd := by
  obtain ⟨fd, F⟩ := T.c.def_ 6 (d := d_look_at_worths) rfl
  obtain ⟨fd_is_worth, G_is_worth, F_is_worth⟩ := ok_is_worth (P := P) (w := w) (base := base) T
  have kp_is_worth := F_is_worth.kp
  have b_is_worth : Binds K fd_is_worth ["thing"] [] := FunD.bindsN F_is_worth (fun _ _ _ _ _ _ us hl => match us, hl with | [_], _ => rfl)
  refine ⟨fd, F.ok sc_look_at_worths (by walk_at "g94len") (fun cdv A outer st H vs Q E hr h => ?_), F⟩
  · obtain ⟨d, rfl, hd, k⟩ := h
    refine ⟨_, PSs.nox (pss_one (ps_lock (ps_for PassesOwn.never rfl (pi_values (pv 0)) (pg_name (i := 1) sc_look_at_worths.nd rfl (Or.inl rfl)) (pss_one (ps_if (pt_not (pt_val (pe_call G_is_worth (hr.mono (by decide)) rfl (glo_is_worth T) kp_is_worth b_is_worth .nil pass0 (pa_cons (pv 1) pa_nil)))) (pss_one ps_never) pss_nil))))), ?_⟩
    exact lock_vals0 hd (fun od Q q => ⟨_, rfl, q⟩) k
def spPart (K : PySem.W.Frag) : Sp := fun vs H Q _ => ∃ (x dx t a : Addr) (r f w : Int), vs = [.ref x, .ref t, .ref a, .int r, .int f, .int w] ∧ H x = some (.ins (cP K) dx []) ∧ H t = some (.dK []) ∧ H a = some (.dK []) ∧ TimeIn r ∧ TimeIn f ∧ TimeIn w ∧
  ∀ H', But x H H' → PartAt K H' x → Q .non H'
theorem ok_Part_init (T : Txt K mg) : ∃ fd, FnOk P w K mg base CX0 4 (He.fAd K ("Part", some "__init__")) fd ["self", "tells", "alone", "rise", "fall", "wait"] (spPart K) ∧ FunD K "__init__" "Part.__init__" (defArgs s_Part_init) (defBody s_Part_init) (defScope s_Part_init) [V.int 0, V.int 0, V.int 0] [] (He.fAd K ("Part", some "__init__")) fd := by
  obtain ⟨fd, F⟩ := T.c.def_ 7 (d := d_Part_init) rfl
  obtain ⟨fd_look_at_slots, G_look_at_slots, F_look_at_slots⟩ := ok_look_at_slots (P := P) (w := w) (base := base) T
  have kp_look_at_slots := F_look_at_slots.kp
  have b_look_at_slots : Binds K fd_look_at_slots ["told"] [] := FunD.bindsN F_look_at_slots (fun _ _ _ _ _ _ us hl => match us, hl with | [_], _ => rfl)
  obtain ⟨fd_look_at_worths, G_look_at_worths, F_look_at_worths⟩ := ok_look_at_worths (P := P) (w := w) (base := base) T
  have kp_look_at_worths := F_look_at_worths.kp
  have b_look_at_worths : Binds K fd_look_at_worths ["told"] [] := FunD.bindsN F_look_at_worths (fun _ _ _ _ _ _ us hl => match us, hl with | [_], _ => rfl)
  obtain ⟨fd_is_time, G_is_time, F_is_time⟩ := ok_is_time (P := P) (w := w) (base := base) T
  have kp_is_time := F_is_time.kp
  have b_is_time : Binds K fd_is_time ["thing"] [] := FunD.bindsN F_is_time (fun _ _ _ _ _ _ us hl => match us, hl with | [_], _ => rfl)
  have cl_Part := cls_Part T
  have na_Part_tells := na_Part_tells T
  have na_Part_alone := na_Part_alone T
  have na_Part_rise := na_Part_rise T
  have na_Part_fall := na_Part_fall T
  have na_Part_wait := na_Part_wait T
  refine ⟨fd, F.ok sc_Part_init (by walk_at "g94len") (fun cdv A outer st H vs Q E hr h => ?_), F⟩
  · obtain ⟨x, dx, t, a, r, f, w, rfl, hx, ht, ha, hr', hf, hw, k⟩ := h
    refine ⟨_, PSs.nox (pss_cons (ps_expr (pe_call G_look_at_slots (hr.mono (by decide)) rfl (glo_look_at_slots T) kp_look_at_slots b_look_at_slots .nil pass0 (pa_cons (pv 1) pa_nil)))
        (pss_cons (ps_expr (pe_call G_look_at_slots (hr.mono (by decide)) rfl (glo_look_at_slots T) kp_look_at_slots b_look_at_slots .nil pass0 (pa_cons (pv 2) pa_nil)))
        (pss_cons (ps_expr (pe_call G_look_at_worths (hr.mono (by decide)) rfl (glo_look_at_worths T) kp_look_at_worths b_look_at_worths .nil pass0 (pa_cons (pv 1) pa_nil)))
        (pss_cons (ps_expr (pe_call G_look_at_worths (hr.mono (by decide)) rfl (glo_look_at_worths T) kp_look_at_worths b_look_at_worths .nil pass0 (pa_cons (pv 2) pa_nil)))
        (pss_cons (ps_if (PW.pt (pw_or (pt_not (pt_val (pe_call G_is_time (hr.mono (by decide)) rfl (glo_is_time T) kp_is_time b_is_time .nil pass0 (pa_cons (pv 3) pa_nil)))) (pw_or (pt_not (pt_val (pe_call G_is_time (hr.mono (by decide)) rfl (glo_is_time T) kp_is_time b_is_time .nil pass0 (pa_cons (pv 4) pa_nil)))) (pw_or1 (pt_not (pt_val (pe_call G_is_time (hr.mono (by decide)) rfl (glo_is_time T) kp_is_time b_is_time .nil pass0 (pa_cons (pv 5) pa_nil)))))))) (pss_one ps_never) pss_nil)
        (pss_cons (ps_fldK (pv 0) (pe_callTy call_dictDK (by rfl) (free_dict T) (by decide +kernel) (pa_cons (pv 1) pa_nil)) rfl)
        (pss_cons (ps_fldK (pv 0) (pe_callTy call_dictDK (by rfl) (free_dict T) (by decide +kernel) (pa_cons (pv 2) pa_nil)) rfl)
        (pss_cons (ps_fldK (pv 0) (pv 3) rfl)
        (pss_cons (ps_fldK (pv 0) (pv 4) rfl)
        (pss_one (ps_fldK (pv 0) (pv 5) rfl))))))))))), ?_⟩
    walk_at "wks"
    exact k _ (by walk_at "bt") ⟨⟨dx, _, _, r, f, w, by walk_at "hp", by walk_at "hp", by walk_at "hp"⟩⟩
def spSlots (K : PySem.W.Frag) : Sp := fun vs H Q _ => ∃ x : Addr, vs = [.ref x] ∧ PartAt K H x ∧ ∀ (p : Addr) H', Same H H' → H' p = some (.lst []) → Q (.ref p) H'
theorem ok_Part_slots (T : Txt K mg) : ∃ fd, FnOk P w K mg base CX0 1 (He.fAd K ("Part", some "slots")) fd ["self"] (spSlots K) ∧ FunD K "slots" "Part.slots" (defArgs s_Part_slots) (defBody s_Part_slots) (defScope s_Part_slots) [] [] (He.fAd K ("Part", some "slots")) fd := by
  obtain ⟨fd, F⟩ := T.c.def_ 8 (d := d_Part_slots) rfl
  have cl_Part := cls_Part T
  have na_Part_tells := na_Part_tells T
  have na_Part_alone := na_Part_alone T
  refine ⟨fd, F.ok sc_Part_slots (by walk_at "g94len") (fun cdv A outer st H vs Q E hr h => ?_), F⟩
  · obtain ⟨x, rfl, ⟨dx, t, a, r, f, w, hx, ht, ha⟩, k⟩ := h
    refine ⟨_, PSs.nox (pss_one (ps_ret (pe_op op_catK (pe_callTy (call_listDK rfl) (by rfl) (free_list T) (by decide +kernel) (pa_cons (pe_fld (pv 0) rfl) pa_nil)) (pe_lock (pe_lc (own := [("slot", 1)]) (g := upG (gName 1)) rfl sc_Part_slots.nd (pi_keys (pe_fld (pv 0) rfl)) (blkOk_by (own := [("slot", 1)]) (N := ["self", "slot"]) (sc := defScope s_Part_slots) (by decide +kernel)) (fun _ _ _ _ _ => (PG.up (pg_name (i := 1) sc_Part_slots.nd rfl (Or.inl rfl)))) (fun _ _ _ _ _ => (PTs.up (pts_one (pt_cmp (pc_dnotin (hu_of hr) (pv 1) (show PE _ _ (tFld K _ _) from pe_fld (pv 0) rfl)))))) (fun _ _ _ _ _ => (PE.up (pv 1)))))))), ?_⟩
    walk_at "wks"
    rename_i p1 H1 f1 s1 h1
    have hx1 := s1 _ _ hx
    have ha1 := s1 _ _ ha
    refine lock_lc0 ha1 (fun od Q q => ⟨_, rfl, _, _, _, _, _, rfl, updN (ne_of hx1 ha1 (by intro z; cases z)) hx1, cl_Part, na_Part_alone, (by walk_at "lk"), q⟩) ?_
    walk_at "wks"
    exact k _ _ (by walk_at "sm") (by walk_at "hp")
def spParts (K : PySem.W.Frag) : Sp := fun vs H Q _ => ∃ l x : Addr, vs = [.ref l] ∧ H l = some (.lst [.ref x]) ∧ PartAt K H x ∧ ∀ H', Same H H' → Q (.bl true) H'
theorem ok_are_parts (T : Txt K mg) : ∃ fd, FnOk P w K mg base CX0 2 (He.fAd K ("are_parts", none)) fd ["parts"] (spParts K) ∧ FunD K "are_parts" "are_parts" (defArgs s_are_parts) (defBody s_are_parts) (defScope s_are_parts) [] [] (He.fAd K ("are_parts", none)) fd := by
  obtain ⟨fd, F⟩ := T.c.def_ 9 (d := d_are_parts) rfl
  obtain ⟨fd_Part_slots, G_Part_slots, F_Part_slots⟩ := ok_Part_slots (P := P) (w := w) (base := base) T
  have kp_Part_slots := F_Part_slots.kp
  have b_Part_slots : Binds K fd_Part_slots ["self"] [] := FunD.bindsN F_Part_slots (fun _ _ _ _ _ _ us hl => match us, hl with | [_], _ => rfl)
  refine ⟨fd, F.ok sc_are_parts (by walk_at "g94len") (fun cdv A outer st H vs Q E hr h => ?_), F⟩
  · obtain ⟨l, x, rfl, hl, hp, k⟩ := h
    refine ⟨_, PSs.nox (pss_cons (ps_if (PW.pt (pw_or (pt_not (pt_val (pe_callB call_isi (by rfl) (free_isinstance T) (by decide +kernel) (pa_cons (pv 0) (pa_cons (pe_bltn (v := .ty "list") (by rfl) (free_list T) (by decide +kernel) rfl) pa_nil))))) (pw_or1 (pt_not (pt_chain op_le op_le pe_int (pe_callB call_len_seq (by rfl) (free_len T) (by decide +kernel) (pa_cons (pv 0) pa_nil)) pe_int))))) (pss_one (ps_ret pe_bl)) pss_nil)
        (pss_cons (ps_set (i := 1) sc_are_parts.nd rfl (Or.inl rfl) pe_dnewKK)
        (pss_cons (ps_for PassesOwn.never rfl (pi_list (pv 0)) (pg_name (i := 2) sc_are_parts.nd rfl (Or.inl rfl)) (pss_cons (ps_if (pt_not (pt_val (pe_callB (C8.call_isC (ins_Part T)) (by rfl) (free_isinstance T) (by decide +kernel) (pa_cons (pv 2) (pa_cons (pe_glob (v := .ref (He.ga K "Part")) rfl (glo_Part T) rfl) pa_nil))))) (pss_one (ps_ret pe_bl)) pss_nil)
        (pss_one (ps_for PassesOwn.never rfl (pi_list (pe_meth0 (pv 2) (cls_Part T) (m_Part_slots T) G_Part_slots (hr.mono (by decide)) b_Part_slots .nil pass0)) (pg_name (i := 3) sc_are_parts.nd rfl (Or.inl rfl)) (pss_cons (ps_if (pt_cmp (pc_din (hu_of hr) (pv 3) (pv 1))) (pss_one (ps_ret pe_bl)) pss_nil)
        (pss_one (ps_dputKK (hu_of hr) (pv 1) (pv 3) pe_bl rfl)))))))
        (pss_one (ps_ret pe_bl))))), ?_⟩
    walk_at "wks"
    rename_i d1 H1 f1 s1 h1
    have hl1 := s1 _ _ hl
    refine ⟨⟨_, .of hl1⟩, for_list (K := K) (a := l) (xs := [.ref x]) (fun i σ' H' => ∃ v w : Option V, σ' = [some (.ref l), some (.ref d1), v, w] ∧ Same H1 H') ⟨_, _, rfl, .refl _⟩ (fun i σ' H' _ ⟨_, _, _, s⟩ => .of (s _ _ hl1)) ?_ ?_⟩
    · rintro i y σ' H2 hi ⟨v, w0, rfl, s2⟩
      obtain ⟨rfl, rfl⟩ : i = 0 ∧ y = V.ref x := by
        match i, hi with
        | 0, hi => exact ⟨rfl, (Option.some.inj hi).symm⟩
      obtain ⟨dx, t, a, r, f, w, hx, ht, ha⟩ := ((hp.same s1).same s2).ob
      refine ⟨_, rfl, x, dx, _, rfl, hx, _, rfl, iteF ?_⟩
      walk_at "wks"
      refine ⟨⟨dx, t, a, r, f, w, hx, ht, ha⟩, fun p H3 s3 h3 => ?_⟩
      refine ⟨p, rfl, ⟨_, .of h3⟩, for_list (K := K) (a := p) (xs := []) (fun i σ' H' => σ' = [some (.ref l), some (.ref d1), some (.ref x), w0] ∧ H' = H3) ⟨rfl, rfl⟩ (fun i σ' H' _ ⟨_, e⟩ => by rw [e]; exact .of h3) (fun i y σ' H' hi _ => by cases i <;> cases hi) ?_⟩
      rintro σ' H' ⟨rfl, rfl⟩
      exact ⟨_, _, rfl, by walk_at "sm"⟩
    · rintro σ' H2 ⟨v, w, rfl, s2⟩
      exact k _ (by walk_at "sm")
def TimeO : Option Int → Prop
  | none => True
  | some t => TimeIn t
def spCue (K : PySem.W.Frag) : Sp := fun vs H Q _ => ∃ (y dx l x : Addr) (n : Int) (f : Option Int), vs = [.ref y, .int n, .ref l, .bl false, optV f] ∧ H y = some (.ins (cC K) dx []) ∧ H l = some (.lst [.ref x]) ∧ PartAt K H x ∧ 1 ≤ n ∧ n ≤ 1000000000 ∧ TimeO f ∧
  ∀ (l' : Addr) H', But y H H' → Fr H l' → H' y = some (.ins (cC K) dx (cfl n l' false f)) → H' l' = some (.lst [.ref x]) → PartAt K H' x → Q .non H'
theorem Fr.but {H G : Hp} {p y : Addr} {o : HO} (f : Fr G p) (m : But y H G) (h : G y = some o) : Fr H p := by
  cases e : H p with
  | none => exact e
  | some u =>
    have ne : p ≠ y := neF2 f h
    have := m _ _ ne e
    rw [f] at this
    cases this
theorem ok_Cue_init (T : Txt K mg) : ∃ fd, FnOk P w K mg base CX0 3 (He.fAd K ("Cue", some "__init__")) fd ["self", "number", "parts", "stops", "follow"] (spCue K) ∧ FunD K "__init__" "Cue.__init__" (defArgs s_Cue_init) (defBody s_Cue_init) (defScope s_Cue_init) [V.bl false, V.non] [] (He.fAd K ("Cue", some "__init__")) fd := by
  obtain ⟨fd, F⟩ := T.c.def_ 10 (d := d_Cue_init) rfl
  obtain ⟨fd_is_amid, G_is_amid, F_is_amid⟩ := ok_is_amid (P := P) (w := w) (base := base) T
  have kp_is_amid := F_is_amid.kp
  have b_is_amid : Binds K fd_is_amid ["thing", "least", "most"] [] := FunD.bindsN F_is_amid (fun _ _ _ _ _ _ us hl => match us, hl with | [_, _, _], _ => rfl)
  obtain ⟨fd_are_parts, G_are_parts, F_are_parts⟩ := ok_are_parts (P := P) (w := w) (base := base) T
  have kp_are_parts := F_are_parts.kp
  have b_are_parts : Binds K fd_are_parts ["parts"] [] := FunD.bindsN F_are_parts (fun _ _ _ _ _ _ us hl => match us, hl with | [_], _ => rfl)
  obtain ⟨fd_is_time, G_is_time, F_is_time⟩ := ok_is_time (P := P) (w := w) (base := base) T
  have kp_is_time := F_is_time.kp
  have b_is_time : Binds K fd_is_time ["thing"] [] := FunD.bindsN F_is_time (fun _ _ _ _ _ _ us hl => match us, hl with | [_], _ => rfl)
  obtain ⟨t_MOST_cues, g_MOST_cues⟩ := int_MOST_cues T
  have cl_Cue := cls_Cue T
  have na_Cue_number := na_Cue_number T
  have na_Cue_parts := na_Cue_parts T
  have na_Cue_stops := na_Cue_stops T
  have na_Cue_follow := na_Cue_follow T
  have cl_Walk := cls_Walk T
  have na_Walk_number := na_Walk_number T
  refine ⟨fd, F.ok sc_Cue_init (by walk_at "g94len") (fun cdv A outer st H vs Q E hr h => ?_), F⟩
  · obtain ⟨y, dx, l, x, n, f, rfl, hy, hl, hp, n0, n1, hf, k⟩ := h
    refine ⟨_, PSs.nox (pss_cons (ps_if (pt_not (pt_val (pe_call G_is_amid (hr.mono (by decide)) rfl (glo_is_amid T) kp_is_amid b_is_amid .nil pass0 (pa_cons (pv 1) (pa_cons pe_int (pa_cons (pe_glob (v := .int 1000000000) rfl g_MOST_cues ⟨_, rfl⟩) pa_nil)))))) (pss_one ps_never) pss_nil)
        (pss_cons (ps_if (pt_not (pt_val (pe_call G_are_parts (hr.mono (by decide)) rfl (glo_are_parts T) kp_are_parts b_are_parts .nil pass0 (pa_cons (pv 2) pa_nil)))) (pss_one ps_never) pss_nil)
        (pss_cons (ps_if (PW.pt (pw_and (pt_cmpR op_notN (pv 4) pe_non (nomark _)) (pw_and1 (pt_not (pt_val (pe_call G_is_time (hr.mono (by decide)) rfl (glo_is_time T) kp_is_time b_is_time .nil pass0 (pa_cons (pv 4) pa_nil))))))) (pss_one ps_never) pss_nil)
        (pss_cons (ps_fldK (pv 0) (pv 1) rfl)
        (pss_cons (ps_fldK (pv 0) (pe_callTy call_listK (by rfl) (free_list T) (by decide +kernel) (pa_cons (pv 2) pa_nil)) rfl)
        (pss_cons (ps_fldK (pv 0) (pv 3) rfl)
        (pss_one (ps_fldK (pv 0) (pv 4) rfl)))))))), ?_⟩
    have nxy : x ≠ y := by
      obtain ⟨ex, et, ea, er, ef, ew, k1, k2, k3⟩ := hp.ob
      exact ne_of k1 hy (ins_ne (by show (5 : Nat) ≠ 0; decide))
    walk_at "wks"
    intro H1 s1
    have hl1 := s1 _ _ hl
    have hp1 := hp.same s1
    cases f with
    | none =>
      walk_at "wks"
      rename_i G1 m1 h1 p2 G2 f2 s2 h2 G3 m3 h3 G4 m4 h4 G5 m5 h5
      obtain ⟨ex, et, ea, er, ef, ew, k1, k2, k3⟩ := hp1.ob
      have e1 : G5 y = some (.ins (cC K) dx (cfl n p2 false none)) := h5
      have e2 : G5 p2 = some (.lst [.ref x]) := by walk_at "hp"
      have e3 : PartAt K G5 x := ⟨⟨ex, et, ea, er, ef, ew, by walk_at "hp", by walk_at "hp", by walk_at "hp"⟩⟩
      exact k p2 _ (by walk_at "bt") (s1.fresh (Fr.but f2 m1 h1)) e1 e2 e3
    | some t =>
      walk_at "wks"
      rename_i G1 m1 h1 p2 G2 f2 s2 h2 G3 m3 h3 G4 m4 h4 G5 m5 h5
      obtain ⟨ex, et, ea, er, ef, ew, k1, k2, k3⟩ := hp1.ob
      exact k p2 _ (by walk_at "bt") (s1.fresh (Fr.but f2 m1 h1)) (by walk_at "hp") (by walk_at "hp") ⟨⟨ex, et, ea, er, ef, ew, by walk_at "hp", by walk_at "hp", by walk_at "hp"⟩⟩
/-! ### lists of cues -/
def Cues (K : PySem.W.Frag) (H : Hp) (xs : List Addr) (cs : List Cu) : Prop := Paired (CueAt K H) xs cs
theorem Cues.same {K : PySem.W.Frag} {H H' : Hp} {xs : List Addr} {cs : List Cu} (h : Cues K H xs cs) (s : Same H H') : Cues K H' xs cs := Paired.mapP h fun _ _ c => c.same s
theorem Cues.at {K : PySem.W.Frag} {H : Hp} : ∀ {xs : List Addr} {cs : List Cu} {i : Nat} {y : V}, Cues K H xs cs → (xs.map V.ref)[i]? = some y → ∃ x c, y = .ref x ∧ xs[i]? = some x ∧ cs[i]? = some c ∧ CueAt K H x c
  | _, _, 0, y, .cons (a := x) (b := c) h t, e => ⟨x, c, (Option.some.inj e).symm, rfl, rfl, h⟩
  | x :: xs, c :: cs, i + 1, y, .cons h t, e => Cues.at (xs := xs) (cs := cs) (i := i) t e
/-- numbers that rise, from above the first one -/
def Rising : Int → List Cu → Prop
  | _, [] => True
  | n, c :: r => n < c.1 ∧ Rising c.1 r
structure CuesIn (K : PySem.W.Frag) (H : Hp) (xs : List Addr) (cs : List Cu) : Prop where
  at_ : Cues K H xs cs
  up : Rising 0 cs
  few : cs.length ≤ 1000
theorem CuesIn.same {K : PySem.W.Frag} {H H' : Hp} {xs : List Addr} {cs : List Cu} (h : CuesIn K H xs cs) (s : Same H H') : CuesIn K H' xs cs := ⟨h.at_.same s, h.up, h.few⟩
theorem Cues.len {K : PySem.W.Frag} {H : Hp} {xs : List Addr} {cs : List Cu} (h : Cues K H xs cs) : xs.length = cs.length := Paired.length h
def numAtI (n : Int) (cs : List Cu) (i : Nat) : Int := ((cs.take i).getLast?.map (·.1)).getD n
theorem rising_at : ∀ {n : Int} {cs : List Cu} {i : Nat} {c : Cu}, Rising n cs → cs[i]? = some c → numAtI n cs i < c.1 ∧ numAtI n cs (i + 1) = c.1
  | n, d :: r, 0, c, h, e => by
    have e2 : d = c := Option.some.inj e
    subst e2
    exact ⟨h.1, rfl⟩
  | n, d :: r, i + 1, c, h, e => by
    have ih := rising_at (n := d.1) (i := i) h.2 (show r[i]? = some c from e)
    have k : ∀ j, numAtI n (d :: r) (j + 1) = numAtI d.1 r j := fun j => by
      unfold numAtI
      rw [List.take_succ_cons]
      cases h0 : (r.take j).getLast? with
      | none =>
        rw [List.getLast?_eq_none_iff] at h0
        rw [h0]
        rfl
      | some z =>
        rw [List.getLast?_cons, h0]
        rfl
    rw [k, k]
    exact ih
/-- what a list may hold: cues, or None -/
def EltAt (K : PySem.W.Frag) (H : Hp) (v : V) : Option Cu → Prop
  | some c => ∃ x, v = .ref x ∧ CueAt K H x c
  | none => v = .non
theorem EltAt.same {K : PySem.W.Frag} {H H' : Hp} {v : V} {o : Option Cu} (h : EltAt K H v o) (s : Same H H') : EltAt K H' v o := by
  cases o with
  | none => exact h
  | some c =>
    obtain ⟨x, e, q⟩ := h
    exact ⟨x, e, q.same s⟩
def GoodO : Int → List (Option Cu) → Prop
  | _, [] => True
  | _, none :: _ => False
  | n, some c :: r => n < c.1 ∧ GoodO c.1 r
/-- a value of another type -/
def IsA (K : PySem.W.Frag) (H : Hp) (v : V) (t : String) (b : Bool) : Prop := ∃ u, TyX K H v u ∧ PySem.W.kitOne K u (.type t) = some b
def BadL (K : PySem.W.Frag) (H : Hp) (v : V) : Prop := IsA K H v "list" false ∨ ∃ (a : Addr) (vs : List V) (os : List (Option Cu)), v = .ref a ∧ H a = some (.lst vs) ∧ Paired (EltAt K H) vs os ∧ ¬ GoodO 0 os
def spList (K : PySem.W.Frag) : Sp := fun vs H Q E => ∃ v : V, vs = [v] ∧ ((∃ (a : Addr) (xs : List Addr) (cs : List Cu), v = .ref a ∧ H a = some (.lst (xs.map V.ref)) ∧ CuesIn K H xs cs ∧ ∀ (p : Addr) H', Fr H p → Same H H' → H' p = some (.lst (xs.map V.ref)) → Q (.ref p) H') ∨
  (BadL K H v ∧ E (.ref (He.ga K "NoList")) none H))
theorem elt_at {K : PySem.W.Frag} {H : Hp} : ∀ {vs : List V} {os : List (Option Cu)} {i : Nat} {y : V}, Paired (EltAt K H) vs os → vs[i]? = some y → ∃ o, os[i]? = some o ∧ EltAt K H y o
  | _, _, 0, y, .cons (b := o) h _, e => ⟨o, rfl, by cases e; exact h⟩
  | _ :: vs, _ :: os, i + 1, y, .cons _ h, e => elt_at (vs := vs) (os := os) (i := i) h e
theorem ok_cue_list (T : Txt K mg) : ∃ fd, FnOk P w K mg base (L2.CX P w) 1 (He.fAd K ("cue_list", none)) fd ["cues"] (spList K) ∧ FunD K "cue_list" "cue_list" (defArgs s_cue_list) (defBody s_cue_list) (defScope s_cue_list) [] [] (He.fAd K ("cue_list", none)) fd := by
  obtain ⟨fd, F⟩ := T.c.def_ 11 (d := d_cue_list) rfl
  have cl_Cue := cls_Cue T
  have na_Cue_number := na_Cue_number T
  have cl_Walk := cls_Walk T
  have na_Walk_number := na_Walk_number T
  refine ⟨fd, F.ok sc_cue_list (by walk_at "g94len") (fun cdv A outer st H vs Q E hr h => ?_), F⟩
  · obtain ⟨v, rfl, ⟨a, xs, cs, rfl, ha, hc, k⟩ | ⟨hb, k⟩⟩ := h
    · refine ⟨_, (pss_cons (ps_if (pt_not (pt_val (pe_callB call_isi (by rfl) (free_isinstance T) (by decide +kernel) (pa_cons (pv 0) (pa_cons (pe_bltn (v := .ty "list") (by rfl) (free_list T) (by decide +kernel) rfl) pa_nil))))) (pss_one (ps_raise rfl (takes_of rfl rfl rfl rfl) (pmk_own PySem.F.excBase_ValueError (exc_NoList T).1 (glo_NoList T) (exc_NoList T).2.1 (raises_own (exc_NoList T).2.2.1 (exc_NoList T).2.2.2) rfl))) pss_nil)
        (pss_cons (ps_set (i := 1) sc_cue_list.nd rfl (Or.inl rfl) pe_int)
        (pss_cons (ps_for (passes_of rfl) rfl (pi_list (pv 0)) (pg_name (i := 2) sc_cue_list.nd rfl (Or.inl rfl)) (pss_cons (ps_if (PW.pt (pw_or (pt_not (pt_val (PE.or (pe_callB (C8.call_isC (ins_Cue T)) (by rfl) (free_isinstance T) (by decide +kernel) (pa_cons (pv 2) (pa_cons (pe_glob (v := .ref (He.ga K "Cue")) rfl (glo_Cue T) rfl) pa_nil))) (pe_callB call_isi (by rfl) (free_isinstance T) (by decide +kernel) (pa_cons (pv 2) (pa_cons (pe_glob (v := .ref (He.ga K "Cue")) rfl (glo_Cue T) rfl) pa_nil)))))) (pw_or1 (pt_cmpR op_le (pe_fld (pv 2) rfl) (pv 1) (nomark _))))) (pss_one (ps_raise rfl (takes_of rfl rfl rfl rfl) (pmk_own PySem.F.excBase_ValueError (exc_NoList T).1 (glo_NoList T) (exc_NoList T).2.1 (raises_own (exc_NoList T).2.2.1 (exc_NoList T).2.2.2) rfl))) pss_nil)
        (pss_one (ps_set (i := 1) sc_cue_list.nd rfl (Or.inl rfl) (pe_fld (pv 2) rfl)))))
        (pss_one (ps_ret (pe_callTy call_listK (by rfl) (free_list T) (by decide +kernel) (pa_cons (pv 0) pa_nil))))))), ?_⟩
      walk_at "wks"
      refine ⟨⟨_, .of ha⟩, for_list (K := K) (a := a) (xs := xs.map V.ref) (fun i σ' H' => ∃ w : Option V, σ' = [some (.ref a), some (.int (numAtI 0 cs i)), w] ∧ H' = H) ⟨_, rfl, rfl⟩ (fun i σ' H' _ ⟨_, _, e⟩ => by rw [e]; exact .of ha) ?_ ?_⟩
      · rintro i y σ' H' hi ⟨w, rfl, rfl⟩
        obtain ⟨x, c, rfl, _, hci, ⟨dx, l, p, hx, _, _⟩⟩ := hc.at_.at hi
        obtain ⟨h1, h2⟩ := rising_at hc.up hci
        refine .inl ⟨_, rfl, x, dx, _, rfl, hx, _, rfl, iteF ?_⟩
        walk_at "wks"
        refine iteDF (by omega) ?_
        walk_at "wks"
        refine ⟨some (V.ref x), ?_, rfl⟩
        rw [h2]
        rfl
      · rintro σ' H' ⟨w, rfl, rfl⟩
        walk_at "wks"
        exact k _ _ (by assumption) (by walk_at "sm") (by assumption)
    · refine ⟨_, (pss_cons (ps_if (pt_not (pt_val (pe_callB call_isi (by rfl) (free_isinstance T) (by decide +kernel) (pa_cons (pv 0) (pa_cons (pe_bltn (v := .ty "list") (by rfl) (free_list T) (by decide +kernel) rfl) pa_nil))))) (pss_one (ps_raise rfl (takes_of rfl rfl rfl rfl) (pmk_own PySem.F.excBase_ValueError (exc_NoList T).1 (glo_NoList T) (exc_NoList T).2.1 (raises_own (exc_NoList T).2.2.1 (exc_NoList T).2.2.2) rfl))) pss_nil)
        (pss_cons (ps_set (i := 1) sc_cue_list.nd rfl (Or.inl rfl) pe_int)
        (pss_cons (ps_for (passes_of rfl) rfl (pi_list (pv 0)) (pg_name (i := 2) sc_cue_list.nd rfl (Or.inl rfl)) (pss_cons (ps_if (PW.pt (pw_or (pt_not (pt_val (PE.or (pe_callB (C8.call_isC (ins_Cue T)) (by rfl) (free_isinstance T) (by decide +kernel) (pa_cons (pv 2) (pa_cons (pe_glob (v := .ref (He.ga K "Cue")) rfl (glo_Cue T) rfl) pa_nil))) (pe_callB call_isi (by rfl) (free_isinstance T) (by decide +kernel) (pa_cons (pv 2) (pa_cons (pe_glob (v := .ref (He.ga K "Cue")) rfl (glo_Cue T) rfl) pa_nil)))))) (pw_or1 (pt_cmpR op_le (pe_fld (pv 2) rfl) (pv 1) (nomark _))))) (pss_one (ps_raise rfl (takes_of rfl rfl rfl rfl) (pmk_own PySem.F.excBase_ValueError (exc_NoList T).1 (glo_NoList T) (exc_NoList T).2.1 (raises_own (exc_NoList T).2.2.1 (exc_NoList T).2.2.2) rfl))) pss_nil)
        (pss_one (ps_set (i := 1) sc_cue_list.nd rfl (Or.inl rfl) (pe_fld (pv 2) rfl)))))
        (pss_one (ps_ret (pe_callTy call_listK (by rfl) (free_list T) (by decide +kernel) (pa_cons (pv 0) pa_nil))))))), ?_⟩
      rcases hb with ⟨u, h1, h2⟩ | ⟨a, vs, os, rfl, ha, hp, ng⟩
      · refine ⟨_, rfl, _, _, _, _, false, rfl, .ty _, h1, h2, ?_⟩
        walk_at "wks"
        exact k
      · walk_at "wks"
        refine ⟨⟨_, .of ha⟩, for_list (K := K) (a := a) (xs := vs) (fun i σ' H' => ∃ (l : Int) (w : Option V), σ' = [some (.ref a), some (.int l), w] ∧ H' = H ∧ ¬ GoodO l (os.drop i)) ⟨_, _, rfl, rfl, ng⟩ (fun i σ' H' _ ⟨_, _, _, e, _⟩ => by rw [e]; exact .of ha) ?_ ?_⟩
        · rintro i y σ' H' hi ⟨l, w, rfl, rfl, ng⟩
          obtain ⟨o, ho, he⟩ := elt_at hp hi
          have ed : os.drop i = o :: os.drop (i + 1) := by
            obtain ⟨hl, e⟩ := List.getElem?_eq_some_iff.mp ho
            rw [← e]
            exact List.drop_eq_getElem_cons hl
          rw [ed] at ng
          cases o with
          | none =>
            obtain rfl : y = .non := he
            refine .inr ⟨_, rfl, _, _, _, _, false, rfl, .own _, .base .non, kitC_none T, ?_⟩
            walk_at "wks"
            exact k
          | some c =>
            obtain ⟨x, rfl, ⟨dx, l', p, hx, _, _⟩⟩ := he
            refine .inl ⟨_, rfl, x, dx, _, rfl, hx, _, rfl, iteF ?_⟩
            walk_at "wks"
            refine iteD (fun c1 => ?_) (fun c1 => ?_)
            · exact k
            · walk_at "wks"
              exact fun q => ng ⟨by omega, q⟩
        · rintro σ' H' ⟨l, w, rfl, rfl, ng⟩
          have : os.length = vs.length := (Paired.length hp).symm
          rw [← this, List.drop_length] at ng
          exact absurd trivial ng
def spGoodN : Sp := fun vs H Q _ => ∃ n : Int, vs = [.int n] ∧ 0 ≤ n ∧ Q (.int n) H
theorem ok_good_number (T : Txt K mg) : ∃ fd, FnOk P w K mg base CX0 1 (He.fAd K ("good_number", none)) fd ["number"] spGoodN ∧ FunD K "good_number" "good_number" (defArgs s_good_number) (defBody s_good_number) (defScope s_good_number) [] [] (He.fAd K ("good_number", none)) fd := by
  obtain ⟨fd, F⟩ := T.c.def_ 12 (d := d_good_number) rfl
  refine ⟨fd, F.ok sc_good_number (by walk_at "g94len") (fun cdv A outer st H vs Q E hr h => ?_), F⟩
  · obtain ⟨n, rfl, h0, k⟩ := h
    refine ⟨_, PSs.nox (pss_cons (ps_if (PW.pt (pw_or (pt_not (pt_val (pe_callB call_isi (by rfl) (free_isinstance T) (by decide +kernel) (pa_cons (pv 0) (pa_cons (pe_bltn (v := .ty "int") (by rfl) (free_int T) (by decide +kernel) rfl) pa_nil))))) (pw_or (pt_val (pe_callB call_isi (by rfl) (free_isinstance T) (by decide +kernel) (pa_cons (pv 0) (pa_cons (pe_bltn (v := .ty "bool") (by rfl) (free_bool T) (by decide +kernel) rfl) pa_nil)))) (pw_or1 (pt_cmpR op_lt (pv 0) pe_int (nomark _)))))) (pss_one ps_never) pss_nil)
        (pss_one (ps_ret (pv 0)))), ?_⟩
    walk_at "wks"
    refine iteDF (by omega) ?_
    walk_at "wks"
    exact k
/-! ### looks by numbers -/
theorem drop_at {α : Type} {l : List α} {i : Nat} {x : α} (h : l[i]? = some x) : l.drop i = x :: l.drop (i + 1) := by
  obtain ⟨hi, e⟩ := List.getElem?_eq_some_iff.mp h
  rw [← e]
  exact List.drop_eq_getElem_cons hi
theorem take_snoc {α : Type} {l : List α} {i : Nat} {x : α} (h : l[i]? = some x) : l.take (i + 1) = l.take i ++ [x] := by
  rw [List.take_add_one, h]
  rfl
def aboveN (n : Int) : List Cu → Int
  | [] => 0
  | c :: r => if n < c.1 then c.1 else aboveN n r
def belowN (n : Int) (cs : List Cu) : Int := cs.foldl (fun f c => if c.1 < n then c.1 else f) 0
def cueN (n : Int) : List Cu → Option Cu
  | [] => none
  | c :: r => if c.1 = n then some c else cueN n r
def spAbove (K : PySem.W.Frag) : Sp := fun vs H Q _ => ∃ (a : Addr) (xs : List Addr) (cs : List Cu) (n : Int), vs = [.ref a, .int n] ∧ H a = some (.lst (xs.map V.ref)) ∧ CuesIn K H xs cs ∧ 0 ≤ n ∧ ∀ H', Same H H' → Q (.int (aboveN n cs)) H'
theorem ok_above (T : Txt K mg) : ∃ fd, FnOk P w K mg base CX0 2 (He.fAd K ("above", none)) fd ["cues", "number"] (spAbove K) ∧ FunD K "above" "above" (defArgs s_above) (defBody s_above) (defScope s_above) [] [] (He.fAd K ("above", none)) fd := by
  obtain ⟨fd, F⟩ := T.c.def_ 14 (d := d_above) rfl
  obtain ⟨fd_cue_list, G_cue_list, F_cue_list⟩ := ok_cue_list (P := P) (w := w) (base := base) T
  have kp_cue_list := F_cue_list.kp
  have b_cue_list : Binds K fd_cue_list ["cues"] [] := FunD.bindsN F_cue_list (fun _ _ _ _ _ _ us hl => match us, hl with | [_], _ => rfl)
  obtain ⟨fd_good_number, G_good_number, F_good_number⟩ := ok_good_number (P := P) (w := w) (base := base) T
  have kp_good_number := F_good_number.kp
  have b_good_number : Binds K fd_good_number ["number"] [] := FunD.bindsN F_good_number (fun _ _ _ _ _ _ us hl => match us, hl with | [_], _ => rfl)
  have cl_Cue := cls_Cue T
  have na_Cue_number := na_Cue_number T
  have cl_Walk := cls_Walk T
  have na_Walk_number := na_Walk_number T
  refine ⟨fd, F.ok sc_above (by walk_at "g94len") (fun cdv A outer st H vs Q E hr h => ?_), F⟩
  · obtain ⟨a, xs, cs, n, rfl, ha, hc, n0, k⟩ := h
    refine ⟨_, PSs.nox (pss_cons (ps_set (i := 2) sc_above.nd rfl (Or.inl rfl) (pe_call G_cue_list (hr.mono (by decide)) rfl (glo_cue_list T) kp_cue_list b_cue_list .nil (passes_call takes0 (fun _ _ _ _ h => h)) (pa_cons (pv 0) pa_nil)))
        (pss_cons (ps_set (i := 3) sc_above.nd rfl (Or.inl rfl) (pe_call G_good_number (hr.mono (by decide)) rfl (glo_good_number T) kp_good_number b_good_number .nil pass0 (pa_cons (pv 1) pa_nil)))
        (pss_cons (ps_for PassesOwn.never rfl (pi_list (pv 2)) (pg_name (i := 4) sc_above.nd rfl (Or.inl rfl)) (pss_one (ps_if (pt_cmpR op_gt (pe_fld (pv 4) rfl) (pv 3) (nomark _)) (pss_one (ps_ret (pe_fld (pv 4) rfl))) pss_nil)))
        (pss_one (ps_ret pe_int))))), ?_⟩
    refine ⟨_, rfl, _, rfl, .inl ⟨a, xs, cs, rfl, ha, hc, fun p H1 f1 s1 h1 => ?_⟩⟩
    have hc1 := hc.same s1
    walk_at "wks"
    refine ⟨⟨_, .of h1⟩, for_list (K := K) (a := p) (xs := xs.map V.ref) (fun i σ' H' => ∃ w : Option V, σ' = [some (.ref a), some (.int n), some (.ref p), some (.int n), w] ∧ H' = H1 ∧ aboveN n cs = aboveN n (cs.drop i)) ⟨_, rfl, rfl, rfl⟩ (fun i σ' H' _ ⟨_, _, e, _⟩ => by rw [e]; exact .of h1) ?_ ?_⟩
    · rintro i y σ' H' hi ⟨w, rfl, rfl, hd⟩
      obtain ⟨x, c, rfl, _, hci, ⟨dx, l, q, hx, _, _⟩⟩ := hc1.at_.at hi
      rw [drop_at hci] at hd
      walk_at "wks"
      refine iteD (fun c1 => ?_) (fun c1 => ?_)
      · walk_at "wks"
        rw [show c.1 = aboveN n cs from (hd.trans (if_pos c1)).symm]
        exact k _ (by walk_at "sm")
      · exact ⟨_, rfl, rfl, hd.trans (if_neg c1)⟩
    · rintro σ' H' ⟨w, rfl, rfl, hd⟩
      rw [List.length_map, hc1.at_.len, List.drop_length] at hd
      rw [hd] at k
      exact k _ (by walk_at "sm")
def spBelow (K : PySem.W.Frag) : Sp := fun vs H Q _ => ∃ (a : Addr) (xs : List Addr) (cs : List Cu) (n : Int), vs = [.ref a, .int n] ∧ H a = some (.lst (xs.map V.ref)) ∧ CuesIn K H xs cs ∧ 0 ≤ n ∧ ∀ H', Same H H' → Q (.int (belowN n cs)) H'
theorem ok_below (T : Txt K mg) : ∃ fd, FnOk P w K mg base CX0 2 (He.fAd K ("below", none)) fd ["cues", "number"] (spBelow K) ∧ FunD K "below" "below" (defArgs s_below) (defBody s_below) (defScope s_below) [] [] (He.fAd K ("below", none)) fd := by
  obtain ⟨fd, F⟩ := T.c.def_ 15 (d := d_below) rfl
  obtain ⟨fd_cue_list, G_cue_list, F_cue_list⟩ := ok_cue_list (P := P) (w := w) (base := base) T
  have kp_cue_list := F_cue_list.kp
  have b_cue_list : Binds K fd_cue_list ["cues"] [] := FunD.bindsN F_cue_list (fun _ _ _ _ _ _ us hl => match us, hl with | [_], _ => rfl)
  obtain ⟨fd_good_number, G_good_number, F_good_number⟩ := ok_good_number (P := P) (w := w) (base := base) T
  have kp_good_number := F_good_number.kp
  have b_good_number : Binds K fd_good_number ["number"] [] := FunD.bindsN F_good_number (fun _ _ _ _ _ _ us hl => match us, hl with | [_], _ => rfl)
  have cl_Cue := cls_Cue T
  have na_Cue_number := na_Cue_number T
  have cl_Walk := cls_Walk T
  have na_Walk_number := na_Walk_number T
  refine ⟨fd, F.ok sc_below (by walk_at "g94len") (fun cdv A outer st H vs Q E hr h => ?_), F⟩
  · obtain ⟨a, xs, cs, n, rfl, ha, hc, n0, k⟩ := h
    refine ⟨_, PSs.nox (pss_cons (ps_set (i := 2) sc_below.nd rfl (Or.inl rfl) (pe_call G_cue_list (hr.mono (by decide)) rfl (glo_cue_list T) kp_cue_list b_cue_list .nil (passes_call takes0 (fun _ _ _ _ h => h)) (pa_cons (pv 0) pa_nil)))
        (pss_cons (ps_set (i := 3) sc_below.nd rfl (Or.inl rfl) (pe_call G_good_number (hr.mono (by decide)) rfl (glo_good_number T) kp_good_number b_good_number .nil pass0 (pa_cons (pv 1) pa_nil)))
        (pss_cons (ps_set (i := 4) sc_below.nd rfl (Or.inl rfl) pe_int)
        (pss_cons (ps_for PassesOwn.never rfl (pi_list (pv 2)) (pg_name (i := 5) sc_below.nd rfl (Or.inl rfl)) (pss_one (ps_if (pt_cmpR op_lt (pe_fld (pv 5) rfl) (pv 3) (nomark _)) (pss_one (ps_set (i := 4) sc_below.nd rfl (Or.inl rfl) (pe_fld (pv 5) rfl))) pss_nil)))
        (pss_one (ps_ret (pv 4))))))), ?_⟩
    refine ⟨_, rfl, _, rfl, .inl ⟨a, xs, cs, rfl, ha, hc, fun p H1 f1 s1 h1 => ?_⟩⟩
    have hc1 := hc.same s1
    walk_at "wks"
    refine ⟨⟨_, .of h1⟩, for_list (K := K) (a := p) (xs := xs.map V.ref) (fun i σ' H' => ∃ w : Option V, σ' = [some (.ref a), some (.int n), some (.ref p), some (.int n), some (.int (belowN n (cs.take i))), w] ∧ H' = H1) ⟨_, rfl, rfl⟩ (fun i σ' H' _ ⟨_, _, e⟩ => by rw [e]; exact .of h1) ?_ ?_⟩
    · rintro i y σ' H' hi ⟨w, rfl, rfl⟩
      obtain ⟨x, c, rfl, _, hci, ⟨dx, l, q, hx, _, _⟩⟩ := hc1.at_.at hi
      have e : belowN n (cs.take (i + 1)) = if c.1 < n then c.1 else belowN n (cs.take i) := by
        unfold belowN
        rw [take_snoc hci, List.foldl_append]
        rfl
      rw [e]
      walk_at "wks"
      refine iteD (fun c1 => ?_) (fun c1 => ?_)
      · rw [if_pos c1]
        walk_at "wks"
        exact rfl
      · rw [if_neg c1]
        exact ⟨_, rfl, rfl⟩
    · rintro σ' H' ⟨w, rfl, rfl⟩
      rw [List.length_map, hc1.at_.len, List.take_length]
      walk_at "wks"
      exact k _ (by walk_at "sm")
/-! ### looks of cues that tell nothing -/
def spCueO (K : PySem.W.Frag) : Sp := fun vs H Q _ => ∃ (a : Addr) (xs : List Addr) (cs : List Cu) (n : Int), vs = [.ref a, .int n] ∧ H a = some (.lst (xs.map V.ref)) ∧ CuesIn K H xs cs ∧ 0 ≤ n ∧
  (∀ c, cueN n cs = some c → ∀ (y : Addr) H', Same H H' → CueAt K H' y c → Q (.ref y) H') ∧ (cueN n cs = none → ∀ H', Same H H' → Q .non H')
theorem ok_cue_at (T : Txt K mg) : ∃ fd, FnOk P w K mg base CX0 2 (He.fAd K ("cue_at", none)) fd ["cues", "number"] (spCueO K) ∧ FunD K "cue_at" "cue_at" (defArgs s_cue_at) (defBody s_cue_at) (defScope s_cue_at) [] [] (He.fAd K ("cue_at", none)) fd := by
  obtain ⟨fd, F⟩ := T.c.def_ 13 (d := d_cue_at) rfl
  obtain ⟨fd_cue_list, G_cue_list, F_cue_list⟩ := ok_cue_list (P := P) (w := w) (base := base) T
  have kp_cue_list := F_cue_list.kp
  have b_cue_list : Binds K fd_cue_list ["cues"] [] := FunD.bindsN F_cue_list (fun _ _ _ _ _ _ us hl => match us, hl with | [_], _ => rfl)
  obtain ⟨fd_good_number, G_good_number, F_good_number⟩ := ok_good_number (P := P) (w := w) (base := base) T
  have kp_good_number := F_good_number.kp
  have b_good_number : Binds K fd_good_number ["number"] [] := FunD.bindsN F_good_number (fun _ _ _ _ _ _ us hl => match us, hl with | [_], _ => rfl)
  have cl_Cue := cls_Cue T
  have na_Cue_number := na_Cue_number T
  have cl_Walk := cls_Walk T
  have na_Walk_number := na_Walk_number T
  refine ⟨fd, F.ok sc_cue_at (by walk_at "g94len") (fun cdv A outer st H vs Q E hr h => ?_), F⟩
  · obtain ⟨a, xs, cs, n, rfl, ha, hc, n0, k, kn⟩ := h
    refine ⟨_, PSs.nox (pss_cons (ps_set (i := 2) sc_cue_at.nd rfl (Or.inl rfl) (pe_call G_cue_list (hr.mono (by decide)) rfl (glo_cue_list T) kp_cue_list b_cue_list .nil (passes_call takes0 (fun _ _ _ _ h => h)) (pa_cons (pv 0) pa_nil)))
        (pss_cons (ps_set (i := 3) sc_cue_at.nd rfl (Or.inl rfl) (pe_call G_good_number (hr.mono (by decide)) rfl (glo_good_number T) kp_good_number b_good_number .nil pass0 (pa_cons (pv 1) pa_nil)))
        (pss_cons (ps_for PassesOwn.never rfl (pi_list (pv 2)) (pg_name (i := 4) sc_cue_at.nd rfl (Or.inl rfl)) (pss_one (ps_if (pt_cmpR op_eq (pe_fld (pv 4) rfl) (pv 3) (nomark _)) (pss_one (ps_ret (pv 4))) pss_nil)))
        (pss_one (ps_ret pe_non))))), ?_⟩
    refine ⟨_, rfl, _, rfl, .inl ⟨a, xs, cs, rfl, ha, hc, fun p H1 f1 s1 h1 => ?_⟩⟩
    have hc1 := hc.same s1
    walk_at "wks"
    refine ⟨⟨_, .of h1⟩, for_list (K := K) (a := p) (xs := xs.map V.ref) (fun i σ' H' => ∃ w : Option V, σ' = [some (.ref a), some (.int n), some (.ref p), some (.int n), w] ∧ H' = H1 ∧ cueN n (cs.drop i) = cueN n cs) ⟨_, rfl, rfl, rfl⟩ (fun i σ' H' _ ⟨_, _, e, _⟩ => by rw [e]; exact .of h1) ?_ ?_⟩
    · rintro i y σ' H' hi ⟨wz, rfl, rfl, hd⟩
      obtain ⟨x, c, rfl, _, hci, hx0⟩ := hc1.at_.at hi
      obtain ⟨dx, l, q, hx, _, _⟩ := id hx0
      rw [drop_at hci] at hd
      walk_at "wks"
      refine iteV (fun c1 => ?_) (fun c1 => ?_)
      · walk_at "wks"
        exact k c (hd.symm.trans (if_pos c1)) x _ (by walk_at "sm") hx0
      · exact ⟨_, rfl, rfl, (if_neg c1).symm.trans hd⟩
    · rintro σ' H' ⟨wz, rfl, rfl, hd⟩
      rw [List.length_map, hc1.at_.len, List.drop_length] at hd
      walk_at "wks"
      exact kn hd.symm _ (by walk_at "sm")
def spPutIn : Sp := fun vs H Q _ => ∃ l d : Addr, vs = [.ref l, .ref d] ∧ H d = some (.dK []) ∧ Q .non H
theorem ok_put_in_look (T : Txt K mg) : ∃ fd, FnOk P w K mg base CX0 1 (He.fAd K ("put_in_look", none)) fd ["look", "told"] spPutIn ∧ FunD K "put_in_look" "put_in_look" (defArgs s_put_in_look) (defBody s_put_in_look) (defScope s_put_in_look) [] [] (He.fAd K ("put_in_look", none)) fd := by
  obtain ⟨fd, F⟩ := T.c.def_ 16 (d := d_put_in_look) rfl
  refine ⟨fd, F.ok sc_put_in_look (by walk_at "g94len") (fun cdv A outer st H vs Q E hr h => ?_), F⟩
  · obtain ⟨l, d, rfl, hd, k⟩ := h
    refine ⟨_, PSs.nox (pss_one (ps_lock (ps_for PassesOwn.never rfl (pi_items (pv 1)) (pg_tup rfl (pgs_cons (pg_name (i := 2) sc_put_in_look.nd rfl (Or.inl rfl)) (pgs_cons (pg_name (i := 3) sc_put_in_look.nd rfl (Or.inl rfl)) pgs_nil))) pss_never))), ?_⟩
    exact lock_items0 hd (fun od Q q => ⟨_, rfl, q⟩) k
def spLook (K : PySem.W.Frag) : Sp := fun vs H Q _ => ∃ (a : Addr) (xs : List Addr) (cs : List Cu) (n : Int), vs = [.ref a, .int n] ∧ H a = some (.lst (xs.map V.ref)) ∧ CuesIn K H xs cs ∧ 0 ≤ n ∧ ∀ (p : Addr) H', Same H H' → H' p = some (.dK []) → Q (.ref p) H'
theorem ok_carried (T : Txt K mg) : ∃ fd, FnOk P w K mg base CX0 2 (He.fAd K ("carried", none)) fd ["cues", "number"] (spLook K) ∧ FunD K "carried" "carried" (defArgs s_carried) (defBody s_carried) (defScope s_carried) [] [] (He.fAd K ("carried", none)) fd := by
  obtain ⟨fd, F⟩ := T.c.def_ 17 (d := d_carried) rfl
  obtain ⟨fd_cue_list, G_cue_list, F_cue_list⟩ := ok_cue_list (P := P) (w := w) (base := base) T
  have kp_cue_list := F_cue_list.kp
  have b_cue_list : Binds K fd_cue_list ["cues"] [] := FunD.bindsN F_cue_list (fun _ _ _ _ _ _ us hl => match us, hl with | [_], _ => rfl)
  obtain ⟨fd_good_number, G_good_number, F_good_number⟩ := ok_good_number (P := P) (w := w) (base := base) T
  have kp_good_number := F_good_number.kp
  have b_good_number : Binds K fd_good_number ["number"] [] := FunD.bindsN F_good_number (fun _ _ _ _ _ _ us hl => match us, hl with | [_], _ => rfl)
  obtain ⟨fd_put_in_look, G_put_in_look, F_put_in_look⟩ := ok_put_in_look (P := P) (w := w) (base := base) T
  have kp_put_in_look := F_put_in_look.kp
  have b_put_in_look : Binds K fd_put_in_look ["look", "told"] [] := FunD.bindsN F_put_in_look (fun _ _ _ _ _ _ us hl => match us, hl with | [_, _], _ => rfl)
  have cl_Part := cls_Part T
  have na_Part_tells := na_Part_tells T
  have cl_Cue := cls_Cue T
  have na_Cue_number := na_Cue_number T
  have na_Cue_parts := na_Cue_parts T
  have na_Cue_stops := na_Cue_stops T
  have cl_Walk := cls_Walk T
  have na_Walk_number := na_Walk_number T
  refine ⟨fd, F.ok sc_carried (by walk_at "g94len") (fun cdv A outer st H vs Q E hr h => ?_), F⟩
  · obtain ⟨a, xs, cs, n, rfl, ha, hc, n0, k⟩ := h
    refine ⟨_, PSs.nox (pss_cons (ps_set (i := 2) sc_carried.nd rfl (Or.inl rfl) (pe_call G_cue_list (hr.mono (by decide)) rfl (glo_cue_list T) kp_cue_list b_cue_list .nil (passes_call takes0 (fun _ _ _ _ h => h)) (pa_cons (pv 0) pa_nil)))
        (pss_cons (ps_set (i := 3) sc_carried.nd rfl (Or.inl rfl) (pe_call G_good_number (hr.mono (by decide)) rfl (glo_good_number T) kp_good_number b_good_number .nil pass0 (pa_cons (pv 1) pa_nil)))
        (pss_cons (ps_set (i := 4) sc_carried.nd rfl (Or.inl rfl) pe_dnewKK)
        (pss_cons (ps_for PassesOwn.never rfl (pi_list (pv 2)) (pg_name (i := 5) sc_carried.nd rfl (Or.inl rfl)) (pss_cons (ps_if (pt_cmpR op_gt (pe_fld (pv 5) rfl) (pv 3) (nomark _)) (pss_one ps_break) pss_nil)
        (C8.pss_cut (ps_if (pt_val (pe_fld (pv 5) rfl)) (pss_one (ps_set (i := 4) sc_carried.nd rfl (Or.inl rfl) pe_dnewKK)) pss_nil)
        (pss_one (ps_for PassesOwn.never rfl (pi_list (pe_fld (pv 5) rfl)) (pg_name (i := 6) sc_carried.nd rfl (Or.inl rfl)) (pss_one (ps_expr (pe_call G_put_in_look (hr.mono (by decide)) rfl (glo_put_in_look T) kp_put_in_look b_put_in_look .nil pass0 (pa_cons (pv 4) (pa_cons (pe_fld (pv 6) rfl) pa_nil))))))))))
        (pss_one (ps_ret (pv 4))))))), ?_⟩
    refine ⟨_, rfl, _, rfl, .inl ⟨a, xs, cs, rfl, ha, hc, fun p H1 f1 s1 h1 => ?_⟩⟩
    walk_at "wk"
    walk_at "wk"
    walk_at "wk"
    walk_at "wks"
    rename_i q H2 f2 s2 h2
    have hc2 := hc.same (s1.trans s2)
    have hp2 := s2 _ _ h1
    refine ⟨⟨_, .of hp2⟩, for_list (K := K) (a := p) (xs := xs.map V.ref) (fun i σ' H' => ∃ wz wp : Option V, σ' = [some (.ref a), some (.int n), some (.ref p), some (.int n), some (.ref q), wz, wp] ∧ H' = H2) ⟨_, _, rfl, rfl⟩ (fun i σ' H' _ ⟨_, _, _, e⟩ => by rw [e]; exact .of hp2) ?_ ?_⟩
    · rintro i y σ' H' hi ⟨wz, wp, rfl, rfl⟩
      obtain ⟨x, c, rfl, _, hci, hx0⟩ := hc2.at_.at hi
      obtain ⟨dx, l, pt, hx, hl, ⟨dp, t, al, r, f, w', hp, ht, hal⟩⟩ := hx0.ob
      walk_at "wks"
      refine iteD (fun c1 => ?_) (fun c1 => ?_)
      · walk_at "wks"
        exact k q _ (by walk_at "sm") h2
      · refine ⟨fun σ'' H'' => σ'' = [some (.ref a), some (.int n), some (.ref p), some (.int n), some (.ref q), some (.ref x), wp] ∧ H'' = H', ?_, ?_⟩
        · walk_at "wks"
          rfl
        rintro σ'' H'' ⟨rfl, rfl⟩
        walk_at "wks"
        refine ⟨⟨_, .of hl⟩, for_list (K := K) (a := l) (xs := [.ref pt]) (fun i σ3 H3 => ∃ wp : Option V, σ3 = [some (.ref a), some (.int n), some (.ref p), some (.int n), some (.ref q), some (.ref x), wp] ∧ H3 = H'') ⟨_, rfl, rfl⟩ (fun i σ' H' _ ⟨_, _, e⟩ => by rw [e]; exact .of hl) ?_ ?_⟩
        · rintro i y σ' H' hi ⟨wp, rfl, rfl⟩
          obtain ⟨rfl, rfl⟩ : i = 0 ∧ y = V.ref pt := by
            match i, hi with
            | 0, hi => exact ⟨rfl, (Option.some.inj hi).symm⟩
          walk_at "wks"
          exact rfl
        · rintro σ' H' ⟨wp, rfl, rfl⟩
          exact ⟨_, _, rfl, rfl⟩
    · rintro σ' H' ⟨wz, wp, rfl, rfl⟩
      walk_at "wks"
      exact k q _ (by walk_at "sm") h2
theorem ok_shown (T : Txt K mg) : ∃ fd, FnOk P w K mg base CX0 3 (He.fAd K ("shown", none)) fd ["cues", "number"] (spLook K) ∧ FunD K "shown" "shown" (defArgs s_shown) (defBody s_shown) (defScope s_shown) [] [] (He.fAd K ("shown", none)) fd := by
  obtain ⟨fd, F⟩ := T.c.def_ 18 (d := d_shown) rfl
  obtain ⟨fd_carried, G_carried, F_carried⟩ := ok_carried (P := P) (w := w) (base := base) T
  have kp_carried := F_carried.kp
  have b_carried : Binds K fd_carried ["cues", "number"] [] := FunD.bindsN F_carried (fun _ _ _ _ _ _ us hl => match us, hl with | [_, _], _ => rfl)
  obtain ⟨fd_cue_at, G_cue_at, F_cue_at⟩ := ok_cue_at (P := P) (w := w) (base := base) T
  have kp_cue_at := F_cue_at.kp
  have b_cue_at : Binds K fd_cue_at ["cues", "number"] [] := FunD.bindsN F_cue_at (fun _ _ _ _ _ _ us hl => match us, hl with | [_, _], _ => rfl)
  obtain ⟨fd_put_in_look, G_put_in_look, F_put_in_look⟩ := ok_put_in_look (P := P) (w := w) (base := base) T
  have kp_put_in_look := F_put_in_look.kp
  have b_put_in_look : Binds K fd_put_in_look ["look", "told"] [] := FunD.bindsN F_put_in_look (fun _ _ _ _ _ _ us hl => match us, hl with | [_, _], _ => rfl)
  have cl_Part := cls_Part T
  have na_Part_alone := na_Part_alone T
  have cl_Cue := cls_Cue T
  have na_Cue_parts := na_Cue_parts T
  refine ⟨fd, F.ok sc_shown (by walk_at "g94len") (fun cdv A outer st H vs Q E hr h => ?_), F⟩
  · obtain ⟨a, xs, cs, n, rfl, ha, hc, n0, k⟩ := h
    refine ⟨_, PSs.nox (pss_cons (ps_set (i := 2) sc_shown.nd rfl (Or.inl rfl) (pe_call G_carried (hr.mono (by decide)) rfl (glo_carried T) kp_carried b_carried .nil pass0 (pa_cons (pv 0) (pa_cons (pv 1) pa_nil))))
        (pss_cons (ps_set (i := 3) sc_shown.nd rfl (Or.inl rfl) (pe_call G_cue_at (hr.mono (by decide)) rfl (glo_cue_at T) kp_cue_at b_cue_at .nil pass0 (pa_cons (pv 0) (pa_cons (pv 1) pa_nil))))
        (C8.pss_cut (ps_if (pt_cmpR op_notN (pv 3) pe_non (nomark _)) (pss_one (ps_for PassesOwn.never rfl (pi_list (pe_fld (pv 3) rfl)) (pg_name (i := 4) sc_shown.nd rfl (Or.inl rfl)) (pss_one (ps_expr (pe_call G_put_in_look (hr.mono (by decide)) rfl (glo_put_in_look T) kp_put_in_look b_put_in_look .nil pass0 (pa_cons (pv 2) (pa_cons (pe_fld (pv 4) rfl) pa_nil))))))) pss_nil)
        (pss_one (ps_ret (pv 2)))))), ?_⟩
    refine ⟨_, rfl, _, rfl, a, xs, cs, n, rfl, ha, hc, n0, fun q H1 s1 h1 => ?_⟩
    have hc1 := hc.same s1
    have ha1 := s1 _ _ ha
    refine ⟨_, rfl, _, rfl, a, xs, cs, n, rfl, ha1, hc1, n0, fun c hcn y H2 s2 hy => ?_, fun hcn H2 s2 => ?_⟩
    · obtain ⟨dx, l, pt, hx, hl, ⟨dp, t, al, r, f, w', hp, ht, hal⟩⟩ := hy.ob
      have h2 := s2 _ _ h1
      refine ⟨fun σ' H' => ∃ wp : Option V, σ' = [some (.ref a), some (.int n), some (.ref q), some (.ref y), wp] ∧ H' = H2, ?_, ?_⟩
      · walk_at "wks"
        refine ⟨⟨_, .of hl⟩, for_list (K := K) (a := l) (xs := [.ref pt]) (fun i σ' H' => ∃ wp : Option V, σ' = [some (.ref a), some (.int n), some (.ref q), some (.ref y), wp] ∧ H' = H2) ⟨_, rfl, rfl⟩ (fun i σ' H' _ ⟨_, _, e⟩ => by rw [e]; exact .of hl) ?_ ?_⟩
        · rintro i y σ' H' hi ⟨wp, rfl, rfl⟩
          obtain ⟨rfl, rfl⟩ : i = 0 ∧ y = V.ref pt := by
            match i, hi with
            | 0, hi => exact ⟨rfl, (Option.some.inj hi).symm⟩
          walk_at "wks"
          exact rfl
        · rintro σ' H' ⟨wp, rfl, rfl⟩
          exact ⟨_, rfl, rfl⟩
      · rintro σ' H' ⟨wp, rfl, rfl⟩
        walk_at "wks"
        exact k q _ (s1.trans s2) h2
    · have h2 := s2 _ _ h1
      refine ⟨fun σ' H' => σ' = [some (.ref a), some (.int n), some (.ref q), some (.non), none] ∧ H' = H2, ?_, ?_⟩
      · walk_at "wks"
        rfl
      · rintro σ' H' ⟨rfl, rfl⟩
        walk_at "wks"
        exact k q _ (s1.trans s2) h2
/-! ### marches -/
abbrev cOn (K : PySem.W.Frag) : Addr := He.ga K "Onward"
abbrev cBa (K : PySem.W.Frag) : Addr := He.ga K "Backward"
abbrev cSt (K : PySem.W.Frag) : Addr := He.ga K "Straight"
abbrev cW (K : PySem.W.Frag) : Addr := He.ga K "Walk"
inductive Dd where
  | go | back | goto (k : Int) | stop | on
def Dd.v (t : Int) : Dd → List V
  | .go => [.int t, .str "go"]
  | .back => [.int t, .str "back"]
  | .goto k => [.int t, .str "goto", .int k]
  | .stop => [.int t, .str "stop"]
  | .on => [.int t, .str "on"]
/-- the number that a march comes to -/
def goalN (cs : List Cu) (n : Int) : Dd → Option Int
  | .go => if aboveN n cs = 0 then none else some (aboveN n cs)
  | .back => if n = 0 then none else some (belowN n cs)
  | .goto k => (cueN k cs).map (·.1)
  | _ => none
def MarchAt (K : PySem.W.Frag) (H : Hp) (v : V) : Dd → Prop
  | .go => ∃ x dx, v = .ref x ∧ H x = some (.ins (cOn K) dx [])
  | .back => ∃ x dx, v = .ref x ∧ H x = some (.ins (cBa K) dx [])
  | .goto k => ∃ x dx, v = .ref x ∧ H x = some (.ins (cSt K) dx [("told_number", .int k)])
  | .stop => v = .non
  | .on => v = .non
def spOn (K : PySem.W.Frag) : Sp := fun vs H Q _ => ∃ (x dx a : Addr) (xs : List Addr) (cs : List Cu) (n : Int), vs = [.ref x, .ref a, .int n] ∧ H x = some (.ins (cOn K) dx []) ∧ H a = some (.lst (xs.map V.ref)) ∧ CuesIn K H xs cs ∧ 0 ≤ n ∧ ∀ H', Same H H' → Q (optV (goalN cs n .go)) H'
theorem ok_Onward_goal (T : Txt K mg) : ∃ fd, FnOk P w K mg base CX0 3 (He.fAd K ("Onward", some "goal")) fd ["self", "cues", "number"] (spOn K) ∧ FunD K "goal" "Onward.goal" (defArgs s_Onward_goal) (defBody s_Onward_goal) (defScope s_Onward_goal) [] [] (He.fAd K ("Onward", some "goal")) fd := by
  obtain ⟨fd, F⟩ := T.c.def_ 19 (d := d_Onward_goal) rfl
  obtain ⟨fd_above, G_above, F_above⟩ := ok_above (P := P) (w := w) (base := base) T
  have kp_above := F_above.kp
  have b_above : Binds K fd_above ["cues", "number"] [] := FunD.bindsN F_above (fun _ _ _ _ _ _ us hl => match us, hl with | [_, _], _ => rfl)
  refine ⟨fd, F.ok sc_Onward_goal (by walk_at "g94len") (fun cdv A outer st H vs Q E hr h => ?_), F⟩
  · obtain ⟨x, dx, a, xs, cs, n, rfl, hx, ha, hc, n0, k⟩ := h
    refine ⟨_, PSs.nox (pss_cons (ps_set (i := 3) sc_Onward_goal.nd rfl (Or.inl rfl) (pe_call G_above (hr.mono (by decide)) rfl (glo_above T) kp_above b_above .nil pass0 (pa_cons (pv 1) (pa_cons (pv 2) pa_nil))))
        (pss_cons (ps_if (pt_cmpR op_eq (pv 3) pe_int (nomark _)) (pss_one (ps_ret pe_non)) pss_nil)
        (pss_one (ps_ret (pv 3))))), ?_⟩
    refine ⟨_, rfl, _, rfl, a, xs, cs, n, rfl, ha, hc, n0, fun H1 s1 => ?_⟩
    walk_at "wks"
    have k1 := k _ s1
    unfold goalN at k1
    refine iteV (fun c1 => ?_) (fun c1 => ?_)
    · rw [if_pos c1] at k1
      exact k1
    · rw [if_neg c1] at k1
      exact ⟨_, rfl, k1⟩
def spBa (K : PySem.W.Frag) : Sp := fun vs H Q _ => ∃ (x dx a : Addr) (xs : List Addr) (cs : List Cu) (n : Int), vs = [.ref x, .ref a, .int n] ∧ H x = some (.ins (cBa K) dx []) ∧ H a = some (.lst (xs.map V.ref)) ∧ CuesIn K H xs cs ∧ 0 ≤ n ∧ ∀ H', Same H H' → Q (optV (goalN cs n .back)) H'
theorem ok_Backward_goal (T : Txt K mg) : ∃ fd, FnOk P w K mg base CX0 3 (He.fAd K ("Backward", some "goal")) fd ["self", "cues", "number"] (spBa K) ∧ FunD K "goal" "Backward.goal" (defArgs s_Backward_goal) (defBody s_Backward_goal) (defScope s_Backward_goal) [] [] (He.fAd K ("Backward", some "goal")) fd := by
  obtain ⟨fd, F⟩ := T.c.def_ 21 (d := d_Backward_goal) rfl
  obtain ⟨fd_below, G_below, F_below⟩ := ok_below (P := P) (w := w) (base := base) T
  have kp_below := F_below.kp
  have b_below : Binds K fd_below ["cues", "number"] [] := FunD.bindsN F_below (fun _ _ _ _ _ _ us hl => match us, hl with | [_, _], _ => rfl)
  refine ⟨fd, F.ok sc_Backward_goal (by walk_at "g94len") (fun cdv A outer st H vs Q E hr h => ?_), F⟩
  · obtain ⟨x, dx, a, xs, cs, n, rfl, hx, ha, hc, n0, k⟩ := h
    refine ⟨_, PSs.nox (pss_cons (ps_if (pt_cmpR op_eq (pv 2) pe_int (nomark _)) (pss_one (ps_ret pe_non)) pss_nil)
        (pss_one (ps_ret (pe_call G_below (hr.mono (by decide)) rfl (glo_below T) kp_below b_below .nil pass0 (pa_cons (pv 1) (pa_cons (pv 2) pa_nil)))))), ?_⟩
    walk_at "wks"
    have k1 := fun H1 s1 => k H1 s1
    unfold goalN at k1
    refine iteV (fun c1 => ?_) (fun c1 => ?_)
    · rw [if_pos c1] at k1
      exact k1 _ (.refl _)
    · rw [if_neg c1] at k1
      exact ⟨_, rfl, _, rfl, a, xs, cs, n, rfl, ha, hc, n0, k1⟩
def spStI (K : PySem.W.Frag) : Sp := fun vs H Q _ => ∃ (x dx : Addr) (k : Int), vs = [.ref x, .int k] ∧ H x = some (.ins (cSt K) dx []) ∧ ∀ H', But x H H' → H' x = some (.ins (cSt K) dx [("told_number", .int k)]) → Q .non H'
theorem ok_Straight_init (T : Txt K mg) : ∃ fd, FnOk P w K mg base CX0 1 (He.fAd K ("Straight", some "__init__")) fd ["self", "told"] (spStI K) ∧ FunD K "__init__" "Straight.__init__" (defArgs s_Straight_init) (defBody s_Straight_init) (defScope s_Straight_init) [] [] (He.fAd K ("Straight", some "__init__")) fd := by
  obtain ⟨fd, F⟩ := T.c.def_ 23 (d := d_Straight_init) rfl
  have cl_Straight := cls_Straight T
  have na_Straight_told_number := na_Straight_told_number T
  refine ⟨fd, F.ok sc_Straight_init (by walk_at "g94len") (fun cdv A outer st H vs Q E hr h => ?_), F⟩
  · obtain ⟨x, dx, i, rfl, hx, k⟩ := h
    refine ⟨_, PSs.nox (pss_one (ps_fldK (pv 0) (pv 1) rfl)), ?_⟩
    walk_at "wks"
    exact k _ (by walk_at "bt") (by walk_at "hp")
def spSt (K : PySem.W.Frag) : Sp := fun vs H Q _ => ∃ (x dx a : Addr) (xs : List Addr) (cs : List Cu) (n i : Int), vs = [.ref x, .ref a, .int n] ∧ H x = some (.ins (cSt K) dx [("told_number", .int i)]) ∧ H a = some (.lst (xs.map V.ref)) ∧ CuesIn K H xs cs ∧ Q (optV (goalN cs n (.goto i))) H
theorem ok_Straight_goal (T : Txt K mg) : ∃ fd, FnOk P w K mg base CX0 3 (He.fAd K ("Straight", some "goal")) fd ["self", "cues", "number"] (spSt K) ∧ FunD K "goal" "Straight.goal" (defArgs s_Straight_goal) (defBody s_Straight_goal) (defScope s_Straight_goal) [] [] (He.fAd K ("Straight", some "goal")) fd := by
  obtain ⟨fd, F⟩ := T.c.def_ 24 (d := d_Straight_goal) rfl
  have cl_Cue := cls_Cue T
  have na_Cue_number := na_Cue_number T
  have cl_Straight := cls_Straight T
  have na_Straight_told_number := na_Straight_told_number T
  have cl_Walk := cls_Walk T
  have na_Walk_number := na_Walk_number T
  refine ⟨fd, F.ok sc_Straight_goal (by walk_at "g94len") (fun cdv A outer st H vs Q E hr h => ?_), F⟩
  · obtain ⟨x, dx, a, xs, cs, n, i0, rfl, hx, ha, hc, k⟩ := h
    refine ⟨_, PSs.nox (pss_cons (ps_for PassesOwn.never rfl (pi_list (pv 1)) (pg_name (i := 3) sc_Straight_goal.nd rfl (Or.inl rfl)) (pss_one (ps_if (pt_cmpR op_eq (pe_fld (pv 3) rfl) (pe_fld (pv 0) rfl) (nomark _)) (pss_one (ps_ret (pe_fld (pv 3) rfl))) pss_nil)))
        (pss_one (ps_ret pe_non))), ?_⟩
    walk_at "wks"
    refine ⟨⟨_, .of ha⟩, for_list (K := K) (a := a) (xs := xs.map V.ref) (fun i σ' H' => ∃ w : Option V, σ' = [some (.ref x), some (.ref a), some (.int n), w] ∧ H' = H ∧ cueN i0 cs = cueN i0 (cs.drop i)) ⟨_, rfl, rfl, rfl⟩ (fun i σ' H' _ ⟨_, _, e, _⟩ => by rw [e]; exact .of ha) ?_ ?_⟩
    · rintro i y σ' H' hi ⟨w, rfl, rfl, hd⟩
      obtain ⟨u, c, rfl, _, hci, ⟨du, l, q, hu, _, _⟩⟩ := hc.at_.at hi
      rw [drop_at hci] at hd
      walk_at "wks"
      refine iteV (fun c1 => ?_) (fun c1 => ?_)
      · walk_at "wks"
        have e : goalN cs n (.goto i0) = some c.1 := by
          show (cueN i0 cs).map (fun x : Cu => x.1) = some c.1
          rw [hd.trans (if_pos c1)]
          rfl
        rw [e] at k
        exact k
      · exact ⟨_, rfl, rfl, hd.trans (if_neg c1)⟩
    · rintro σ' H' ⟨w, rfl, rfl, hd⟩
      rw [List.length_map, hc.at_.len, List.drop_length] at hd
      have e : goalN cs n (.goto i0) = none := by
        show (cueN i0 cs).map (fun x : Cu => x.1) = none
        rw [hd]
        rfl
      rw [e] at k
      exact k
def spWord (w : Str) : Sp := fun vs H Q _ => ∃ x : Addr, vs = [.ref x] ∧ Q (.str w) H
theorem ok_March_word (T : Txt K mg) : ∃ fd, FnOk P w K mg base CX0 1 (He.fAd K ("March", some "word")) fd ["self"] (spWord "go") ∧ FunD K "word" "March.word" (defArgs s_March_word) (defBody s_March_word) (defScope s_March_word) [] [] (He.fAd K ("March", some "word")) fd := by
  obtain ⟨fd, F⟩ := T.c.def_ 20 (d := d_March_word) rfl
  refine ⟨fd, F.ok sc_March_word (by walk_at "g94len") (fun cdv A outer st H vs Q E hr h => ?_), F⟩
  · obtain ⟨x, rfl, k⟩ := h
    exact ⟨_, PSs.nox (pss_one (ps_ret pe_str)), k⟩
theorem ok_Backward_word (T : Txt K mg) : ∃ fd, FnOk P w K mg base CX0 1 (He.fAd K ("Backward", some "word")) fd ["self"] (spWord "back") ∧ FunD K "word" "Backward.word" (defArgs s_Backward_word) (defBody s_Backward_word) (defScope s_Backward_word) [] [] (He.fAd K ("Backward", some "word")) fd := by
  obtain ⟨fd, F⟩ := T.c.def_ 22 (d := d_Backward_word) rfl
  refine ⟨fd, F.ok sc_Backward_word (by walk_at "g94len") (fun cdv A outer st H vs Q E hr h => ?_), F⟩
  · obtain ⟨x, rfl, k⟩ := h
    exact ⟨_, PSs.nox (pss_one (ps_ret pe_str)), k⟩
def spMarch (K : PySem.W.Frag) : Sp := fun vs H Q _ => ∃ (a : Addr) (t : Int) (d : Dd), vs = [.ref a] ∧ H a = some (.tup (d.v t)) ∧ ∀ m H', Same H H' → MarchAt K H' m d → Q m H'
theorem ok_march_of (T : Txt K mg) : ∃ fd, FnOk P w K mg base CX0 3 (He.fAd K ("march_of", none)) fd ["deed"] (spMarch K) ∧ FunD K "march_of" "march_of" (defArgs s_march_of) (defBody s_march_of) (defScope s_march_of) [] [] (He.fAd K ("march_of", none)) fd := by
  obtain ⟨fd, F⟩ := T.c.def_ 25 (d := d_march_of) rfl
  obtain ⟨fd_Straight_init, G_Straight_init, F_Straight_init⟩ := ok_Straight_init (P := P) (w := w) (base := base) T
  have kp_Straight_init := F_Straight_init.kp
  have b_Straight_init : Binds K fd_Straight_init ["self", "told"] [] := FunD.bindsN F_Straight_init (fun _ _ _ _ _ _ us hl => match us, hl with | [_, _], _ => rfl)
  refine ⟨fd, F.ok sc_march_of (by walk_at "g94len") (fun cdv A outer st H vs Q E hr h => ?_), F⟩
  · obtain ⟨a, t, d, rfl, ha, k⟩ := h
    refine ⟨_, PSs.nox (pss_cons (ps_if (pt_cmpR op_eq (pe_ix ix_tup (pv 0) pe_int (fun _ _ => rfl)) pe_str (nomark _)) (pss_one (ps_ret (pe_makeO (mko_Onward T) rfl (glo_Onward T)))) pss_nil)
        (pss_cons (ps_if (pt_cmpR op_eq (pe_ix ix_tup (pv 0) pe_int (fun _ _ => rfl)) pe_str (nomark _)) (pss_one (ps_ret (pe_makeO (mko_Backward T) rfl (glo_Backward T)))) pss_nil)
        (pss_cons (ps_if (pt_cmpR op_eq (pe_ix ix_tup (pv 0) pe_int (fun _ _ => rfl)) pe_str (nomark _)) (pss_one (ps_ret (pe_makeK (mk_Straight T) G_Straight_init (hr.mono (by decide)) rfl (glo_Straight T) b_Straight_init .nil pass0 (pa_cons (pe_ix ix_tup (pv 0) pe_int (fun _ _ => rfl)) pa_nil)))) pss_nil)
        (pss_one (ps_ret pe_non))))), ?_⟩
    cases d with
    | go =>
      have ha : H a = some (.tup [.int t, .str "go"]) := ha
      walk_at "wks"
      exact fun x dx H2 f s h => k _ _ s ⟨x, dx, rfl, h⟩
    | back =>
      have ha : H a = some (.tup [.int t, .str "back"]) := ha
      walk_at "wks"
      exact fun x dx H2 f s h => k _ _ s ⟨x, dx, rfl, h⟩
    | goto i =>
      have ha : H a = some (.tup [.int t, .str "goto", .int i]) := ha
      walk_at "wks"
      refine fun x dx H2 f s h => ⟨x, dx, i, rfl, h, fun H3 m h3 => ⟨rfl, k _ _ (s.but m f) ⟨x, dx, rfl, h3⟩⟩⟩
    | stop =>
      have ha : H a = some (.tup [.int t, .str "stop"]) := ha
      walk_at "wks"
      exact k _ _ (.refl _) rfl
    | on =>
      have ha : H a = some (.tup [.int t, .str "on"]) := ha
      walk_at "wks"
      exact k _ _ (.refl _) rfl
/-! ### the walk through a list -/
abbrev Row := Int × Int × Str
structure WS where
  n : Int
  l : Int
  held : Option Int
  due : Option Int
  rows : List Row
def WS.clock (w : WS) (t b : Int) : Int := match w.held with
  | some h => h * b
  | none => t - w.l * b
def WS.row (w : WS) (c : Int) (s : Str) : WS := { w with rows := w.rows ++ [(c, w.n, s)] }
def wordB (g : Bool) : Str := if g = true then "go" else "back"
def followD (cs : List Cu) (c n : Int) : Option Int := ((cueN n cs).bind (·.2)).map (c + ·)
def WS.arrive (cs : List Cu) (w : WS) (c n : Int) (g : Bool) : WS := { w with n := n, due := if g = true then followD cs c n else none, rows := w.rows ++ [(c, n, wordB g)] }
def WS.letOn (w : WS) (t : Int) : WS := match w.held with
  | some h => { w with l := t - h, held := none }
  | none => w
def catchN (cs : List Cu) (t b : Int) : Nat → WS → WS
  | 0, w => w
  | k + 1, w => match w.due with
    | none => w
    | some d => if d * b ≤ w.clock t b then (if 0 < aboveN w.n cs then catchN cs t b k (WS.arrive cs { w with due := none } d (aboveN w.n cs) true) else { w with due := none }) else w
def WS.catchUp (cs : List Cu) (w : WS) (t b : Int) : WS := catchN cs t b (cs.length + 2) w
def Dd.goes : Dd → Bool
  | .back => false
  | _ => true
def Dd.march : Dd → Bool
  | .stop => false
  | .on => false
  | _ => true
def WS.take1 (cs : List Cu) (w1 : WS) (t : Int) (d : Dd) : WS :=
  if d.march = true then (match goalN cs w1.n d with
    | some g => WS.arrive cs (w1.letOn t) (w1.clock t 1) g d.goes
    | none => w1)
  else match d with
    | .stop => { w1 with held := some (w1.clock t 1) }
    | _ => w1.letOn t
def WS.take (cs : List Cu) (w : WS) (t : Int) (d : Dd) : WS := (w.catchUp cs t 1).take1 cs t d
abbrev wfl (h : Addr) (n l : Int) (held due : Option Int) (r : Addr) : List (Str × V) := [("here", .ref h), ("number", .int n), ("lost", .int l), ("held", optV held), ("due", optV due), ("rows_told", .ref r)]
def RowAt (H : Hp) (xs : List Addr) (t : Addr × Addr) (r : Row) : Prop := H t.1 = some (.tup [.int r.1, .ref t.2, .int r.2.1, .str r.2.2]) ∧ H t.2 = some (.lst (xs.map V.ref))
def RowsAt (H : Hp) (xs : List Addr) (ts : List (Addr × Addr)) (rs : List Row) : Prop := Paired (RowAt H xs) ts rs
theorem RowsAt.mono {H H' : Hp} {xs : List Addr} {ts : List (Addr × Addr)} {rs : List Row} (h : RowsAt H xs ts rs) (ht : ∀ a ys, H a = some (.tup ys) → H' a = some (.tup ys)) (hl : ∀ t ∈ ts, ∀ ys, H t.2 = some (.lst ys) → H' t.2 = some (.lst ys)) : RowsAt H' xs ts rs := by
  unfold RowsAt at h ⊢
  induction h with
  | nil => exact .nil
  | @cons t r ts rs p _ ih => exact .cons ⟨ht _ _ p.1, hl t List.mem_cons_self _ p.2⟩ (ih fun u hu => hl u (List.mem_cons_of_mem _ hu))
theorem RowsAt.snoc {H : Hp} {xs : List Addr} {ts : List (Addr × Addr)} {rs : List Row} (h : RowsAt H xs ts rs) {t : Addr × Addr} {r : Row} (q : RowAt H xs t r) : RowsAt H xs (ts ++ [t]) (rs ++ [r]) := Paired.snoc h q
theorem RowsAt.lists {H : Hp} {xs : List Addr} {ts : List (Addr × Addr)} {rs : List Row} (h : RowsAt H xs ts rs) : ∀ t ∈ ts, H t.2 = some (.lst (xs.map V.ref)) := by
  unfold RowsAt at h
  induction h with
  | nil => exact fun t ht => nomatch ht
  | @cons t r ts rs p _ ih =>
    intro u hu
    rcases List.mem_cons.mp hu with rfl | hu
    · exact p.2
    · exact ih u hu
structure WalkAt (K : PySem.W.Frag) (H0 H : Hp) (x hA rA : Addr) (xs : List Addr) (ts : List (Addr × Addr)) (w : WS) : Prop where
  base : Same H0 H
  fx : Fr H0 x
  fr : Fr H0 rA
  ob : ∃ dx, H x = some (.ins (cW K) dx (wfl hA w.n w.l w.held w.due rA))
  rl : H rA = some (.lst (ts.map fun t => V.ref t.1))
  rs : RowsAt H xs ts w.rows
  here : H0 hA = some (.lst (xs.map V.ref))
  apart : ∀ t ∈ ts, t.2 ≠ rA
  frs : ∀ t ∈ ts, Fr H0 t.2
  nd : (ts.map (·.2)).Nodup
theorem WalkAt.same {K : PySem.W.Frag} {H0 H H' : Hp} {x hA rA : Addr} {xs : List Addr} {ts : List (Addr × Addr)} {w : WS} (h : WalkAt K H0 H x hA rA xs ts w) (s : Same H H') : WalkAt K H0 H' x hA rA xs ts w := by
  obtain ⟨dx, hx⟩ := h.ob
  exact ⟨h.base.trans s, h.fx, h.fr, ⟨dx, s _ _ hx⟩, s _ _ h.rl, h.rs.mono (fun _ _ e => s _ _ e) fun _ _ _ e => s _ _ e, h.here, h.apart, h.frs, h.nd⟩
/-- the instance alone is written -/
theorem WalkAt.put {K : PySem.W.Frag} {H0 H H' : Hp} {x hA rA dx : Addr} {xs : List Addr} {ts : List (Addr × Addr)} {w : WS} (h : WalkAt K H0 H x hA rA xs ts w) (m : But x H H') {n l : Int} {held due : Option Int} (hx : H' x = some (.ins (cW K) dx (wfl hA n l held due rA))) :
    WalkAt K H0 H' x hA rA xs ts ⟨n, l, held, due, w.rows⟩ := by
  obtain ⟨d0, h0⟩ := h.ob
  have kl : ∀ a ys, H a = some (.lst ys) → H' a = some (.lst ys) := fun a ys e => m _ _ (ne_of e h0 (by intro z; cases z)) e
  exact ⟨h.base.but m h.fx, h.fx, h.fr, ⟨dx, hx⟩, kl _ _ h.rl, h.rs.mono (fun a ys e => m _ _ (ne_of e h0 (by intro z; cases z)) e) fun _ _ _ e => kl _ _ e, h.here, h.apart, h.frs, h.nd⟩
/-- one more row -/
theorem WalkAt.snoc {K : PySem.W.Frag} {H0 H H1 H2 H' : Hp} {x hA rA l t : Addr} {xs : List Addr} {ts : List (Addr × Addr)} {w : WS} {c : Int} {s : Str} (h : WalkAt K H0 H x hA rA xs ts w) (f1 : Fr H l) (s1 : Same H H1) (h1 : H1 l = some (.lst (xs.map V.ref)))
    (f2 : Fr H1 t) (s2 : Same H1 H2) (h2 : H2 t = some (.tup [.int c, .ref l, .int w.n, .str s])) (m : But rA H2 H') (hr : H' rA = some (.lst (ts.map (fun t => V.ref t.1) ++ [V.ref t]))) :
    WalkAt K H0 H' x hA rA xs (ts ++ [(t, l)]) (w.row c s) := by
  have w2 := h.same (s1.trans s2)
  obtain ⟨dx, hx⟩ := w2.ob
  have nl : l ≠ rA := neF2 f1 h.rl
  refine ⟨w2.base.but m h.fr, h.fx, h.fr, ⟨dx, m _ _ (ne_of hx w2.rl (by intro z; cases z)) hx⟩, ?_, ?_, h.here, ?_, ?_, ?_⟩
  · rw [List.map_append]
    exact hr
  · refine RowsAt.snoc (w2.rs.mono (fun a ys e => m _ _ (ne_of e w2.rl (by intro z; cases z)) e) fun u hu ys e => m _ _ (h.apart u hu) e) ⟨?_, ?_⟩
    · exact m _ _ (ne_of h2 w2.rl (by intro z; cases z)) h2
    · exact m _ _ nl (s2 _ _ h1)
  · intro u hu
    rcases List.mem_append.mp hu with hu | hu
    · exact h.apart u hu
    · cases List.mem_singleton.mp hu
      exact nl
  · intro u hu
    rcases List.mem_append.mp hu with hu | hu
    · exact h.frs u hu
    · cases List.mem_singleton.mp hu
      exact f1.back h.base
  · rw [List.map_append]
    refine List.nodup_append.mpr ⟨h.nd, by simp, ?_⟩
    intro a ha b hb e
    cases List.mem_singleton.mp hb
    obtain ⟨u, hu, rfl⟩ := List.mem_map.mp ha
    exact neF f1 (h.rs.lists u hu) e
structure BIn (b : Int) : Prop where
  lo : 1 ≤ b
  hi : b ≤ 1000000000
def spClock (K : PySem.W.Frag) : Sp := fun vs H Q _ => ∃ (x hA rA dx : Addr) (n l : Int) (held due : Option Int) (t b : Int), vs = [.ref x, .int t, .int b] ∧ H x = some (.ins (cW K) dx (wfl hA n l held due rA)) ∧ BIn b ∧ Q (.int (WS.clock ⟨n, l, held, due, []⟩ t b)) H
theorem ok_Walk_clock (T : Txt K mg) : ∃ fd, FnOk P w K mg base CX0 1 (He.fAd K ("Walk", some "clock")) fd ["self", "top", "bottom"] (spClock K) ∧ FunD K "clock" "Walk.clock" (defArgs s_Walk_clock) (defBody s_Walk_clock) (defScope s_Walk_clock) [] [] (He.fAd K ("Walk", some "clock")) fd := by
  obtain ⟨fd, F⟩ := T.c.def_ 27 (d := d_Walk_clock) rfl
  have cl_Walk := cls_Walk T
  have na_Walk_lost := na_Walk_lost T
  have na_Walk_held := na_Walk_held T
  refine ⟨fd, F.ok sc_Walk_clock (by walk_at "g94len") (fun cdv A outer st H vs Q E hr h => ?_), F⟩
  · obtain ⟨x, hA, rA, dx, n, l, held, due, t, b, rfl, hx, ⟨b0, b1⟩, k⟩ := h
    refine ⟨_, PSs.nox (pss_cons (ps_if (pt_cmpR op_notN (pe_fld (pv 0) rfl) pe_non (nomark _)) (pss_one (ps_ret (pe_op op_mul (pe_fld (pv 0) rfl) (pv 2)))) pss_nil)
        (pss_one (ps_ret (pe_op op_sub (pv 1) (pe_op op_mul (pe_fld (pv 0) rfl) (pv 2)))))), ?_⟩
    cases held with
    | none =>
      walk_at "wks"
      exact k
    | some h =>
      walk_at "wks"
      exact k
def spTell (K : PySem.W.Frag) : Sp := fun vs H Q _ => ∃ (H0 : Hp) (x hA rA : Addr) (xs : List Addr) (ts : List (Addr × Addr)) (w : WS) (c : Int) (s : Str), vs = [.ref x, .int c, .str s] ∧ WalkAt K H0 H x hA rA xs ts w ∧ ts.length ≤ 90000 ∧
  ∀ (t l : Addr) H', WalkAt K H0 H' x hA rA xs (ts ++ [(t, l)]) (w.row c s) → Q .non H'
theorem ok_Walk_tell_row (T : Txt K mg) : ∃ fd, FnOk P w K mg base CX0 1 (He.fAd K ("Walk", some "tell_row")) fd ["self", "clock", "word"] (spTell K) ∧ FunD K "tell_row" "Walk.tell_row" (defArgs s_Walk_tell_row) (defBody s_Walk_tell_row) (defScope s_Walk_tell_row) [] [] (He.fAd K ("Walk", some "tell_row")) fd := by
  obtain ⟨fd, F⟩ := T.c.def_ 28 (d := d_Walk_tell_row) rfl
  have cl_Cue := cls_Cue T
  have na_Cue_number := na_Cue_number T
  have cl_Walk := cls_Walk T
  have na_Walk_here := na_Walk_here T
  have na_Walk_number := na_Walk_number T
  have na_Walk_rows_told := na_Walk_rows_told T
  refine ⟨fd, F.ok sc_Walk_tell_row (by walk_at "g94len") (fun cdv A outer st H vs Q E hr h => ?_), F⟩
  · obtain ⟨H0, x, hA, rA, xs, ts, w, c, s, rfl, hw, hn, k⟩ := h
    refine ⟨_, PSs.nox (pss_one (ps_expr (pe_bm PySem.F.plainAttrs_list PySem.F.slot_list_append PySem.F.type_list_append mt_appendK (pe_fld (pv 0) rfl) (pa_cons (pe_tupK (pa_cons (pv 1) (pa_cons (pe_callTy call_listK (by rfl) (free_list T) (by decide +kernel) (pa_cons (pe_fld (pv 0) rfl) pa_nil)) (pa_cons (pe_fld (pv 0) rfl) (pa_cons (pv 2) pa_nil))))) pa_nil)))), ?_⟩
    obtain ⟨dx, hx⟩ := hw.ob
    have hr1 := hw.rl
    have hh := hw.base _ _ hw.here
    walk_at "wks"
    rename_i l H1 f1 s1 h1 t H2 f2 s2 h2 H3 m3 h3
    exact k t l _ (hw.snoc f1 s1 h1 f2 s2 h2 m3 h3)
/-- the words of an arrival -/
def spArr (K : PySem.W.Frag) : Sp := fun vs H Q _ => ∃ (H0 : Hp) (x hA rA : Addr) (xs : List Addr) (cs : List Cu) (ts : List (Addr × Addr)) (w : WS) (c n : Int) (g : Bool), vs = [.ref x, .int c, .int n, .str (wordB g)] ∧ WalkAt K H0 H x hA rA xs ts w ∧ CuesIn K H0 xs cs ∧ 0 ≤ n ∧ ts.length ≤ 90000 ∧
  (g = true → ∃ u, cueN n cs = some u) ∧ ∀ (t l : Addr) H', WalkAt K H0 H' x hA rA xs (ts ++ [(t, l)]) (WS.arrive cs w c n g) → Q .non H'
theorem ok_Walk_arrive (T : Txt K mg) : ∃ fd, FnOk P w K mg base CX0 3 (He.fAd K ("Walk", some "arrive")) fd ["self", "clock", "number", "word"] (spArr K) ∧ FunD K "arrive" "Walk.arrive" (defArgs s_Walk_arrive) (defBody s_Walk_arrive) (defScope s_Walk_arrive) [] [] (He.fAd K ("Walk", some "arrive")) fd := by
  obtain ⟨fd, F⟩ := T.c.def_ 29 (d := d_Walk_arrive) rfl
  obtain ⟨fd_Walk_tell_row, G_Walk_tell_row, F_Walk_tell_row⟩ := ok_Walk_tell_row (P := P) (w := w) (base := base) T
  have kp_Walk_tell_row := F_Walk_tell_row.kp
  have b_Walk_tell_row : Binds K fd_Walk_tell_row ["self", "clock", "word"] [] := FunD.bindsN F_Walk_tell_row (fun _ _ _ _ _ _ us hl => match us, hl with | [_, _, _], _ => rfl)
  obtain ⟨fd_cue_at, G_cue_at, F_cue_at⟩ := ok_cue_at (P := P) (w := w) (base := base) T
  have kp_cue_at := F_cue_at.kp
  have b_cue_at : Binds K fd_cue_at ["cues", "number"] [] := FunD.bindsN F_cue_at (fun _ _ _ _ _ _ us hl => match us, hl with | [_, _], _ => rfl)
  have cl_Cue := cls_Cue T
  have na_Cue_number := na_Cue_number T
  have na_Cue_follow := na_Cue_follow T
  have cl_Walk := cls_Walk T
  have na_Walk_here := na_Walk_here T
  have na_Walk_number := na_Walk_number T
  have na_Walk_due := na_Walk_due T
  refine ⟨fd, F.ok sc_Walk_arrive (by walk_at "g94len") (fun cdv A outer st H vs Q E hr h => ?_), F⟩
  · obtain ⟨H0, x, hA, rA, xs, cs, ts, w, c, n, g, rfl, hw, hc, n0, hn, hg, k⟩ := h
    refine ⟨_, PSs.nox (pss_cons (ps_fldK (pv 0) (pv 2) rfl)
        (pss_cons (ps_fldK (pv 0) pe_non rfl)
        (C8.pss_cut (ps_if (pt_cmpR op_eq (pv 3) pe_str (nomark _)) (pss_cons (ps_set (i := 4) sc_Walk_arrive.nd rfl (Or.inl rfl) (pe_fld (pe_call G_cue_at (hr.mono (by decide)) rfl (glo_cue_at T) kp_cue_at b_cue_at .nil pass0 (pa_cons (pe_fld (pv 0) rfl) (pa_cons (pv 2) pa_nil))) rfl))
        (pss_one (ps_if (pt_cmpR op_notN (pv 4) pe_non (nomark _)) (pss_one (ps_fldK (pv 0) (pe_op op_add (pv 1) (pv 4)) rfl)) pss_nil))) pss_nil)
        (pss_one (ps_expr (pe_meth (pv 0) (cls_Walk T) (m_Walk_tell_row T) G_Walk_tell_row (hr.mono (by decide)) b_Walk_tell_row .nil pass0 (pa_cons (pv 1) (pa_cons (pv 3) pa_nil)))))))), ?_⟩
    obtain ⟨dx, hx⟩ := hw.ob
    walk_at "wks"
    rename_i H1 m1 h1 H2 m2 h2
    have w2 := (hw.put m1 h1).put (n := n) (l := w.l) (held := w.held) (due := none) m2 h2
    refine ⟨fun σ' H' => ∃ v : Option V, σ' = [some (.ref x), some (.int c), some (.int n), some (.str (wordB g)), v] ∧ WalkAt K H0 H' x hA rA xs ts ⟨n, w.l, w.held, if g = true then followD cs c n else none, w.rows⟩, ?_, ?_⟩
    · cases g with
      | false =>
        refine ⟨_, rfl, rfl, _, rfl, iteF ?_⟩
        exact ⟨none, rfl, w2⟩
      | true =>
        refine ⟨_, rfl, rfl, _, rfl, iteT ?_⟩
        obtain ⟨u, hu⟩ := hg rfl
        obtain ⟨dx2, hx2⟩ := w2.ob
        have k0 : ∀ (y : Addr) H', Same H2 H' → CueAt K H' y u → ∃ dy ly, H' y = some (.ins (cC K) dy (cfl u.1 ly false u.2)) := fun y H' _ q => by
          obtain ⟨dy, ly, py, e, _⟩ := q.ob
          exact ⟨dy, ly, e⟩
        walk_at "wk"
        walk_at "wk"
        refine ⟨_, rfl, hA, xs, cs, n, rfl, w2.base _ _ w2.here, hc.same w2.base, n0, fun u2 hu2 y H3 s3 hy => ?_, fun q => by rw [hu] at q; cases q⟩
        obtain rfl : u = u2 := Option.some.inj (hu.symm.trans hu2)
        obtain ⟨dy, ly, e3⟩ := k0 y H3 s3 hy
        have w3 := w2.same s3
        obtain ⟨dx3, hx3⟩ := w3.ob
        have ef : followD cs c n = u.2.map (c + ·) := by
          unfold followD
          rw [hu]
          rfl
        rw [ef]
        cases hf : u.2 with
        | none =>
          rw [hf] at e3
          walk_at "wks"
          exact w3
        | some f =>
          rw [hf] at e3
          walk_at "wks"
          rename_i H4 m4 h4
          exact w3.put (n := n) (l := w.l) (held := w.held) (due := some (c + f)) m4 h4
    · rintro σ' H' ⟨v, rfl, w3⟩
      obtain ⟨dx3, hx3⟩ := w3.ob
      refine ⟨_, rfl, x, dx3, _, rfl, hx3, rfl, _, rfl, _, rfl, H0, x, hA, rA, xs, ts, _, c, wordB g, rfl, w3, hn, fun t l H4 w4 => ?_⟩
      exact k t l H4 w4
theorem catchN_none {cs : List Cu} {t b : Int} : ∀ {k : Nat} {w : WS}, w.due = none → catchN cs t b k w = w
  | 0, _, _ => rfl
  | k + 1, w, h => by
    unfold catchN
    rw [h]
/-- steps that may still come -/
def leftN (n : Int) (cs : List Cu) : Nat := (cs.filter fun c => decide (n < c.1)).length
theorem above_in {n : Int} : ∀ {cs : List Cu}, aboveN n cs ≠ 0 → ∃ c ∈ cs, c.1 = aboveN n cs ∧ n < c.1
  | [], h => absurd rfl h
  | c :: r, h => by
    unfold aboveN at h ⊢
    by_cases q : n < c.1
    · rw [if_pos q]
      exact ⟨c, List.mem_cons_self, rfl, q⟩
    · rw [if_neg q] at h ⊢
      obtain ⟨d, hd, e⟩ := above_in h
      exact ⟨d, List.mem_cons_of_mem _ hd, e⟩
theorem cue_of {n : Int} : ∀ {cs : List Cu}, (∃ c ∈ cs, c.1 = n) → ∃ u, cueN n cs = some u
  | [], ⟨_, h, _⟩ => nomatch h
  | c :: r, ⟨d, h, e⟩ => by
    unfold cueN
    by_cases q : c.1 = n
    · exact ⟨c, if_pos q⟩
    · rw [if_neg q]
      rcases List.mem_cons.mp h with rfl | h
      · exact absurd e q
      · exact cue_of ⟨d, h, e⟩
theorem left_le {n : Int} {cs : List Cu} : leftN n cs ≤ cs.length := List.length_filter_le _ _
theorem left_step {n : Int} {cs : List Cu} (h : aboveN n cs ≠ 0) : leftN (aboveN n cs) cs < leftN n cs := by
  obtain ⟨c, hc, e, l⟩ := above_in h
  unfold leftN
  generalize aboveN n cs = m at *
  subst e
  clear h
  induction cs with
  | nil => nomatch hc
  | cons d r ih =>
    have sub : (r.filter fun d => decide (c.1 < d.1)).length ≤ (r.filter fun d => decide (n < d.1)).length := by
      clear ih hc
      induction r with
      | nil => exact Nat.le_refl _
      | cons x r ih =>
        rw [List.filter_cons, List.filter_cons]
        by_cases q : c.1 < x.1
        · rw [if_pos (by simpa using q), if_pos (by simpa using (by omega : n < x.1))]
          exact Nat.succ_le_succ ih
        · rw [if_neg (by simpa using q)]
          split
          · exact Nat.le_succ_of_le ih
          · exact ih
    rw [List.filter_cons, List.filter_cons]
    rcases List.mem_cons.mp hc with rfl | hc
    · rw [if_neg (by simp), if_pos (by simpa using l)]
      exact Nat.lt_succ_of_le sub
    · by_cases q : c.1 < d.1
      · rw [if_pos (by simpa using q), if_pos (by simpa using (by omega : n < d.1))]
        exact Nat.succ_lt_succ (ih hc)
      · rw [if_neg (by simpa using q)]
        split
        · exact Nat.lt_succ_of_lt (ih hc)
        · exact ih hc
theorem catchN_more {cs : List Cu} {t b : Int} : ∀ {k : Nat} {w : WS}, leftN w.n cs + 1 < k → catchN cs t b (k + 1) w = catchN cs t b k w
  | 0, _, h => absurd h (by omega)
  | k + 1, w, h => by
    rw [catchN]
    conv => rhs; rw [catchN]
    cases hd : w.due with
    | none => rfl
    | some d =>
      show (if d * b ≤ w.clock t b then (if 0 < aboveN w.n cs then catchN cs t b (k + 1) _ else _) else w) = (if d * b ≤ w.clock t b then (if 0 < aboveN w.n cs then catchN cs t b k _ else _) else w)
      by_cases q1 : d * b ≤ w.clock t b
      · rw [if_pos q1, if_pos q1]
        by_cases q2 : 0 < aboveN w.n cs
        · rw [if_pos q2, if_pos q2]
          have := left_step (n := w.n) (cs := cs) (by omega)
          exact catchN_more (k := k) (by show leftN (aboveN w.n cs) cs + 1 < k; omega)
        · rw [if_neg q2, if_neg q2]
      · rw [if_neg q1, if_neg q1]
theorem catchN_stop {cs : List Cu} {t b : Int} {k : Nat} {w : WS} {d : Int} (h : w.due = some d) (q : ¬ d * b ≤ w.clock t b) : catchN cs t b k w = w := by
  cases k with
  | zero => rfl
  | succ k =>
    rw [catchN, h]
    exact if_neg q
/-- one turn of the mirror, at full length -/
theorem catch_turn {cs : List Cu} {t b : Int} {w : WS} {d : Int} (h : w.due = some d) (q : d * b ≤ w.clock t b) :
    catchN cs t b (cs.length + 2) w = if 0 < aboveN w.n cs then catchN cs t b (cs.length + 2) (WS.arrive cs { w with due := none } d (aboveN w.n cs) true) else { w with due := none } := by
  conv => lhs; rw [catchN, h]
  show (if d * b ≤ w.clock t b then (if 0 < aboveN w.n cs then catchN cs t b (cs.length + 1) _ else _) else w) = _
  rw [if_pos q]
  by_cases q2 : 0 < aboveN w.n cs
  · rw [if_pos q2, if_pos q2]
    have h1 := left_step (n := w.n) (cs := cs) (by omega)
    have h2 := left_le (n := w.n) (cs := cs)
    exact (catchN_more (k := cs.length + 1) (by show leftN (aboveN w.n cs) cs + 1 < _; omega)).symm
  · rw [if_neg q2, if_neg q2]
structure TsOk (ts : List (Addr × Addr)) (m : Nat) : Prop where
  le : ts.length ≤ m
def spCatch (K : PySem.W.Frag) : Sp := fun vs H Q _ => ∃ (H0 : Hp) (x hA rA : Addr) (xs : List Addr) (cs : List Cu) (ts : List (Addr × Addr)) (w : WS) (t b : Int), vs = [.ref x, .int t, .int b] ∧ WalkAt K H0 H x hA rA xs ts w ∧ CuesIn K H0 xs cs ∧ BIn b ∧ 0 ≤ w.n ∧ ts.length + leftN w.n cs ≤ 90000 ∧
  ∀ (ts' : List (Addr × Addr)) H', ts'.length ≤ ts.length + leftN w.n cs → 0 ≤ (w.catchUp cs t b).n → WalkAt K H0 H' x hA rA xs ts' (w.catchUp cs t b) → Q .non H'
theorem ok_Walk_catch_up (T : Txt K mg) : ∃ fd, FnOk P w K mg base CX0 4 (He.fAd K ("Walk", some "catch_up")) fd ["self", "top", "bottom"] (spCatch K) ∧ FunD K "catch_up" "Walk.catch_up" (defArgs s_Walk_catch_up) (defBody s_Walk_catch_up) (defScope s_Walk_catch_up) [] [] (He.fAd K ("Walk", some "catch_up")) fd := by
  obtain ⟨fd, F⟩ := T.c.def_ 30 (d := d_Walk_catch_up) rfl
  obtain ⟨fd_above, G_above, F_above⟩ := ok_above (P := P) (w := w) (base := base) T
  have kp_above := F_above.kp
  have b_above : Binds K fd_above ["cues", "number"] [] := FunD.bindsN F_above (fun _ _ _ _ _ _ us hl => match us, hl with | [_, _], _ => rfl)
  obtain ⟨fd_Walk_clock, G_Walk_clock, F_Walk_clock⟩ := ok_Walk_clock (P := P) (w := w) (base := base) T
  have kp_Walk_clock := F_Walk_clock.kp
  have b_Walk_clock : Binds K fd_Walk_clock ["self", "top", "bottom"] [] := FunD.bindsN F_Walk_clock (fun _ _ _ _ _ _ us hl => match us, hl with | [_, _, _], _ => rfl)
  obtain ⟨fd_Walk_arrive, G_Walk_arrive, F_Walk_arrive⟩ := ok_Walk_arrive (P := P) (w := w) (base := base) T
  have kp_Walk_arrive := F_Walk_arrive.kp
  have b_Walk_arrive : Binds K fd_Walk_arrive ["self", "clock", "number", "word"] [] := FunD.bindsN F_Walk_arrive (fun _ _ _ _ _ _ us hl => match us, hl with | [_, _, _, _], _ => rfl)
  have cl_Cue := cls_Cue T
  have na_Cue_number := na_Cue_number T
  have cl_Walk := cls_Walk T
  have na_Walk_here := na_Walk_here T
  have na_Walk_number := na_Walk_number T
  have na_Walk_due := na_Walk_due T
  refine ⟨fd, F.ok sc_Walk_catch_up (by walk_at "g94len") (fun cdv A outer st H vs Q E hr h => ?_), F⟩
  · obtain ⟨H0, x, hA, rA, xs, cs, ts, w, t, b, rfl, hw, hc, hb, n0, hn, k⟩ := h
    refine ⟨_, PSs.nox (pss_one (ps_while PassesOwn.never (PT.up (PW.pt (pw_and (pt_cmpR op_notN (pe_fld (pv 0) rfl) pe_non (nomark _)) (pw_and1 (pt_cmpR op_le (pe_op op_mul (pe_fld (pv 0) rfl) (pv 2)) (pe_meth (pv 0) (cls_Walk T) (m_Walk_clock T) G_Walk_clock (hr.mono (by decide)) b_Walk_clock .nil pass0 (pa_cons (pv 1) (pa_cons (pv 2) pa_nil))) (nomark _)))))) (pss_cons (ps_set (i := 3) sc_Walk_catch_up.nd rfl (Or.inl rfl) (pe_fld (pv 0) rfl))
        (pss_cons (ps_fldK (pv 0) pe_non rfl)
        (pss_cons (ps_set (i := 4) sc_Walk_catch_up.nd rfl (Or.inl rfl) (pe_call G_above (hr.mono (by decide)) rfl (glo_above T) kp_above b_above .nil pass0 (pa_cons (pe_fld (pv 0) rfl) (pa_cons (pe_fld (pv 0) rfl) pa_nil))))
        (pss_one (ps_if (pt_cmpR op_gt (pv 4) pe_int (nomark _)) (pss_one (ps_expr (pe_meth (pv 0) (cls_Walk T) (m_Walk_arrive T) G_Walk_arrive (hr.mono (by decide)) b_Walk_arrive .nil pass0 (pa_cons (pv 3) (pa_cons (pv 4) (pa_cons pe_str pa_nil)))))) pss_nil))))))), ?_⟩
    refine whileN (fun m σ' H' => ∃ (ts' : List (Addr × Addr)) (w' : WS) (vc vn : Option V), σ' = [some (.ref x), some (.int t), some (.int b), vc, vn] ∧ WalkAt K H0 H' x hA rA xs ts' w' ∧ 0 ≤ w'.n ∧ ts'.length + leftN w'.n cs ≤ ts.length + leftN w.n cs ∧
      catchN cs t b (cs.length + 2) w' = w.catchUp cs t b ∧ m = leftN w'.n cs + (if w'.due.isSome = true then 1 else 0)) _ ⟨ts, w, none, none, rfl, hw, n0, Nat.le_refl _, rfl, rfl⟩ ?_
    rintro m σ' H1 ⟨ts1, w1, vc, vn, rfl, hw1, n1, l1, e1, rfl⟩
    obtain ⟨dx, hx⟩ := hw1.ob
    cases hd : w1.due with
    | none =>
      rw [hd] at hx
      walk_at "wks"
      rw [catchN_none hd] at e1
      rw [← e1] at k
      exact k _ _ (by omega) n1 hw1
    | some d =>
      rw [hd] at hx
      obtain ⟨b0, b1⟩ := id hb
      walk_at "wks"
      refine ⟨x, hA, rA, dx, w1.n, w1.l, w1.held, some d, t, b, rfl, hx, hb, ?_⟩
      refine ⟨_, _, rfl, rfl, _, rfl, iteD (fun c1 => ?_) (fun c1 => ?_)⟩
      · have c1 : d * b ≤ w1.clock t b := c1
        have et := catch_turn (cs := cs) hd c1
        rw [e1] at et
        walk_at "wks"
        rename_i H2 m2 h2
        have w2 := hw1.put (n := w1.n) (l := w1.l) (held := w1.held) (due := none) m2 h2
        refine ⟨hA, xs, cs, w1.n, rfl, w2.base _ _ w2.here, hc.same w2.base, n1, fun H3 s3 => ?_⟩
        have w3 := w2.same s3
        refine ⟨_, rfl, _, _, rfl, rfl, _, rfl, iteD (fun c2 => ?_) (fun c2 => ?_)⟩
        · rw [if_pos c2] at et
          have hl := left_step (n := w1.n) (cs := cs) (by omega)
          obtain ⟨u, hu, e, _⟩ := above_in (n := w1.n) (cs := cs) (by omega)
          obtain ⟨dx3, hx3⟩ := w3.ob
          refine ⟨_, rfl, x, dx3, _, rfl, hx3, rfl, _, rfl, _, rfl, H0, x, hA, rA, xs, cs, ts1, _, d, aboveN w1.n cs, true, rfl, w3, hc, by omega, by omega, fun _ => cue_of ⟨u, hu, e⟩, fun t4 l4 H4 w4 => ?_⟩
          refine ⟨_, ?_, ts1 ++ [(t4, l4)], _, _, _, rfl, w4, by show 0 ≤ aboveN w1.n cs; omega, ?_, et.symm, rfl⟩
          · show leftN (aboveN w1.n cs) cs + _ < leftN w1.n cs + 1
            have : ∀ o : Option Int, (if o.isSome = true then 1 else 0) ≤ 1 := fun o => by split <;> omega
            have := this (WS.arrive cs { w1 with due := none } d (aboveN w1.n cs) true).due
            omega
          · show (ts1 ++ [(t4, l4)]).length + leftN (aboveN w1.n cs) cs ≤ _
            rw [List.length_append, List.length_singleton]
            omega
        · rw [if_neg c2] at et
          refine ⟨_, ?_, ts1, _, _, _, rfl, w3, n1, l1, ?_, rfl⟩
          · show leftN w1.n cs + 0 < leftN w1.n cs + 1
            omega
          · rw [et]
            exact catchN_none rfl
      · have c1 : ¬ d * b ≤ w1.clock t b := c1
        rw [catchN_stop hd c1] at e1
        rw [← e1] at k
        exact k _ _ (by omega) n1 hw1
def spLet (K : PySem.W.Frag) : Sp := fun vs H Q _ => ∃ (H0 : Hp) (x hA rA : Addr) (xs : List Addr) (ts : List (Addr × Addr)) (w : WS) (t : Int), vs = [.ref x, .int t] ∧ WalkAt K H0 H x hA rA xs ts w ∧ ∀ H', But x H H' → WalkAt K H0 H' x hA rA xs ts (w.letOn t) → Q .non H'
theorem ok_Walk_let_on (T : Txt K mg) : ∃ fd, FnOk P w K mg base CX0 1 (He.fAd K ("Walk", some "let_on")) fd ["self", "tick"] (spLet K) ∧ FunD K "let_on" "Walk.let_on" (defArgs s_Walk_let_on) (defBody s_Walk_let_on) (defScope s_Walk_let_on) [] [] (He.fAd K ("Walk", some "let_on")) fd := by
  obtain ⟨fd, F⟩ := T.c.def_ 31 (d := d_Walk_let_on) rfl
  have cl_Walk := cls_Walk T
  have na_Walk_lost := na_Walk_lost T
  have na_Walk_held := na_Walk_held T
  refine ⟨fd, F.ok sc_Walk_let_on (by walk_at "g94len") (fun cdv A outer st H vs Q E hr h => ?_), F⟩
  · obtain ⟨H0, x, hA, rA, xs, ts, w, t, rfl, hw, k⟩ := h
    refine ⟨_, PSs.nox (pss_one (ps_if (pt_cmpR op_notN (pe_fld (pv 0) rfl) pe_non (nomark _)) (pss_cons (ps_fldK (pv 0) (pe_op op_sub (pv 1) (pe_fld (pv 0) rfl)) rfl)
        (pss_one (ps_fldK (pv 0) pe_non rfl))) pss_nil)), ?_⟩
    obtain ⟨dx, hx⟩ := hw.ob
    unfold WS.letOn at k
    cases hh : w.held with
    | none =>
      rw [hh] at hx k
      walk_at "wks"
      exact k _ (fun _ _ _ e => e) hw
    | some h =>
      rw [hh] at hx k
      walk_at "wks"
      rename_i H1 m1 h1 H2 m2 h2
      exact k _ (m1.trans m2) ((hw.put (n := w.n) (l := t - h) (held := some h) (due := w.due) m1 h1).put (n := w.n) (l := t - h) (held := none) (due := w.due) m2 h2)
theorem rising_pos : ∀ {cs : List Cu} {n : Int}, 0 ≤ n → Rising n cs → ∀ c ∈ cs, 0 < c.1
  | [], _, _, _, c, h => nomatch h
  | d :: r, n, h0, h, c, hc => by
    have hd : 0 < d.1 := by have := h.1; omega
    rcases List.mem_cons.mp hc with rfl | hc
    · exact hd
    · exact rising_pos (n := d.1) (by omega) h.2 c hc
theorem cueN_in {n : Int} : ∀ {cs : List Cu} {u : Cu}, cueN n cs = some u → u ∈ cs ∧ u.1 = n
  | [], _, h => nomatch h
  | c :: r, u, h => by
    unfold cueN at h
    by_cases q : c.1 = n
    · rw [if_pos q] at h
      cases h
      exact ⟨List.mem_cons_self, q⟩
    · rw [if_neg q] at h
      exact ⟨List.mem_cons_of_mem _ (cueN_in h).1, (cueN_in h).2⟩
theorem below_pos {n : Int} : ∀ {cs : List Cu} {f : Int}, 0 ≤ f → (∀ c ∈ cs, 0 < c.1) → 0 ≤ cs.foldl (fun f c => if c.1 < n then c.1 else f) f
  | [], f, h, _ => h
  | c :: r, f, h, q => by
    rw [List.foldl_cons]
    refine below_pos ?_ fun d hd => q d (List.mem_cons_of_mem _ hd)
    split
    · have := q c List.mem_cons_self
      omega
    · exact h
theorem goal_ok {cs : List Cu} {n : Int} {d : Dd} {g : Int} (hu : Rising 0 cs) (h : goalN cs n d = some g) : 0 ≤ g ∧ (d.goes = true → ∃ u, cueN g cs = some u) := by
  have pos := rising_pos (Int.le_refl 0) hu
  cases d with
  | go =>
    unfold goalN at h
    by_cases q : aboveN n cs = 0
    · rw [if_pos q] at h
      cases h
    · rw [if_neg q] at h
      cases h
      obtain ⟨c, hc, e, l⟩ := above_in q
      exact ⟨by rw [← e]; exact Int.le_of_lt (pos c hc), fun _ => cue_of ⟨c, hc, e⟩⟩
  | back =>
    unfold goalN at h
    by_cases q : n = 0
    · rw [if_pos q] at h
      cases h
    · rw [if_neg q] at h
      cases h
      exact ⟨below_pos (Int.le_refl 0) pos, fun z => nomatch z⟩
  | goto k =>
    have h : (cueN k cs).map (fun x : Cu => x.1) = some g := h
    cases hk : cueN k cs with
    | none =>
      rw [hk] at h
      cases h
    | some u =>
      rw [hk] at h
      cases h
      obtain ⟨hc, e⟩ := cueN_in hk
      exact ⟨Int.le_of_lt (pos u hc), fun _ => ⟨u, by show cueN u.1 cs = some u; rw [e]; exact hk⟩⟩
  | stop => cases h
  | on => cases h
def spTake (K : PySem.W.Frag) : Sp := fun vs H Q _ => ∃ (H0 : Hp) (x hA rA dA : Addr) (xs : List Addr) (cs : List Cu) (ts : List (Addr × Addr)) (w : WS) (t : Int) (d : Dd), vs = [.ref x, .ref dA] ∧ WalkAt K H0 H x hA rA xs ts w ∧ CuesIn K H0 xs cs ∧ H0 dA = some (.tup (d.v t)) ∧ 0 ≤ w.n ∧ ts.length + cs.length + 1 ≤ 90000 ∧
  ∀ (ts' : List (Addr × Addr)) H', ts'.length ≤ ts.length + cs.length + 1 → 0 ≤ (WS.take cs w t d).n → WalkAt K H0 H' x hA rA xs ts' (WS.take cs w t d) → Q .non H'
theorem ok_Walk_take (T : Txt K mg) : ∃ fd, FnOk P w K mg base CX0 5 (He.fAd K ("Walk", some "take")) fd ["self", "deed"] (spTake K) ∧ FunD K "take" "Walk.take" (defArgs s_Walk_take) (defBody s_Walk_take) (defScope s_Walk_take) [] [] (He.fAd K ("Walk", some "take")) fd := by
  obtain ⟨fd, F⟩ := T.c.def_ 32 (d := d_Walk_take) rfl
  obtain ⟨fd_Walk_catch_up, G_Walk_catch_up, F_Walk_catch_up⟩ := ok_Walk_catch_up (P := P) (w := w) (base := base) T
  have kp_Walk_catch_up := F_Walk_catch_up.kp
  have b_Walk_catch_up : Binds K fd_Walk_catch_up ["self", "top", "bottom"] [] := FunD.bindsN F_Walk_catch_up (fun _ _ _ _ _ _ us hl => match us, hl with | [_, _, _], _ => rfl)
  obtain ⟨fd_Walk_clock, G_Walk_clock, F_Walk_clock⟩ := ok_Walk_clock (P := P) (w := w) (base := base) T
  have kp_Walk_clock := F_Walk_clock.kp
  have b_Walk_clock : Binds K fd_Walk_clock ["self", "top", "bottom"] [] := FunD.bindsN F_Walk_clock (fun _ _ _ _ _ _ us hl => match us, hl with | [_, _, _], _ => rfl)
  obtain ⟨fd_march_of, G_march_of, F_march_of⟩ := ok_march_of (P := P) (w := w) (base := base) T
  have kp_march_of := F_march_of.kp
  have b_march_of : Binds K fd_march_of ["deed"] [] := FunD.bindsN F_march_of (fun _ _ _ _ _ _ us hl => match us, hl with | [_], _ => rfl)
  obtain ⟨fd_Onward_goal, G_Onward_goal, F_Onward_goal⟩ := ok_Onward_goal (P := P) (w := w) (base := base) T
  have kp_Onward_goal := F_Onward_goal.kp
  have b_Onward_goal : Binds K fd_Onward_goal ["self", "cues", "number"] [] := FunD.bindsN F_Onward_goal (fun _ _ _ _ _ _ us hl => match us, hl with | [_, _, _], _ => rfl)
  obtain ⟨fd_Backward_goal, G_Backward_goal, F_Backward_goal⟩ := ok_Backward_goal (P := P) (w := w) (base := base) T
  have kp_Backward_goal := F_Backward_goal.kp
  have b_Backward_goal : Binds K fd_Backward_goal ["self", "cues", "number"] [] := FunD.bindsN F_Backward_goal (fun _ _ _ _ _ _ us hl => match us, hl with | [_, _, _], _ => rfl)
  obtain ⟨fd_Straight_goal, G_Straight_goal, F_Straight_goal⟩ := ok_Straight_goal (P := P) (w := w) (base := base) T
  have kp_Straight_goal := F_Straight_goal.kp
  have b_Straight_goal : Binds K fd_Straight_goal ["self", "cues", "number"] [] := FunD.bindsN F_Straight_goal (fun _ _ _ _ _ _ us hl => match us, hl with | [_, _, _], _ => rfl)
  obtain ⟨fd_Walk_let_on, G_Walk_let_on, F_Walk_let_on⟩ := ok_Walk_let_on (P := P) (w := w) (base := base) T
  have kp_Walk_let_on := F_Walk_let_on.kp
  have b_Walk_let_on : Binds K fd_Walk_let_on ["self", "tick"] [] := FunD.bindsN F_Walk_let_on (fun _ _ _ _ _ _ us hl => match us, hl with | [_, _], _ => rfl)
  obtain ⟨fd_Walk_arrive, G_Walk_arrive, F_Walk_arrive⟩ := ok_Walk_arrive (P := P) (w := w) (base := base) T
  have kp_Walk_arrive := F_Walk_arrive.kp
  have b_Walk_arrive : Binds K fd_Walk_arrive ["self", "clock", "number", "word"] [] := FunD.bindsN F_Walk_arrive (fun _ _ _ _ _ _ us hl => match us, hl with | [_, _, _, _], _ => rfl)
  obtain ⟨fd_March_word, G_March_word, F_March_word⟩ := ok_March_word (P := P) (w := w) (base := base) T
  have kp_March_word := F_March_word.kp
  have b_March_word : Binds K fd_March_word ["self"] [] := FunD.bindsN F_March_word (fun _ _ _ _ _ _ us hl => match us, hl with | [_], _ => rfl)
  obtain ⟨fd_Backward_word, G_Backward_word, F_Backward_word⟩ := ok_Backward_word (P := P) (w := w) (base := base) T
  have kp_Backward_word := F_Backward_word.kp
  have b_Backward_word : Binds K fd_Backward_word ["self"] [] := FunD.bindsN F_Backward_word (fun _ _ _ _ _ _ us hl => match us, hl with | [_], _ => rfl)
  obtain ⟨fd_cue_list, G_cue_list, F_cue_list⟩ := ok_cue_list (P := P) (w := w) (base := base) T
  have kp_cue_list := F_cue_list.kp
  have b_cue_list : Binds K fd_cue_list ["cues"] [] := FunD.bindsN F_cue_list (fun _ _ _ _ _ _ us hl => match us, hl with | [_], _ => rfl)
  obtain ⟨fd_Walk_tell_row, G_Walk_tell_row, F_Walk_tell_row⟩ := ok_Walk_tell_row (P := P) (w := w) (base := base) T
  have kp_Walk_tell_row := F_Walk_tell_row.kp
  have b_Walk_tell_row : Binds K fd_Walk_tell_row ["self", "clock", "word"] [] := FunD.bindsN F_Walk_tell_row (fun _ _ _ _ _ _ us hl => match us, hl with | [_, _, _], _ => rfl)
  have cl_Cue := cls_Cue T
  have na_Cue_number := na_Cue_number T
  have cl_Walk := cls_Walk T
  have na_Walk_here := na_Walk_here T
  have na_Walk_number := na_Walk_number T
  have na_Walk_held := na_Walk_held T
  refine ⟨fd, F.ok sc_Walk_take (by walk_at "g94len") (fun cdv A outer st H vs Q E hr h => ?_), F⟩
  · obtain ⟨H0, x, hA, rA, dA, xs, cs, ts, w, t, d, rfl, hw, hc, hd, n0, hn, k⟩ := h
    refine ⟨_, PSs.nox (pss_cons (ps_set (i := 2) sc_Walk_take.nd rfl (Or.inl rfl) (pe_ix ix_tup (pv 1) pe_int (fun _ _ => rfl)))
        (pss_cons (ps_expr (pe_meth (pv 0) (cls_Walk T) (m_Walk_catch_up T) G_Walk_catch_up (hr.mono (by decide)) b_Walk_catch_up .nil pass0 (pa_cons (pv 2) (pa_cons pe_int pa_nil))))
        (pss_cons (ps_set (i := 3) sc_Walk_take.nd rfl (Or.inl rfl) (pe_meth (pv 0) (cls_Walk T) (m_Walk_clock T) G_Walk_clock (hr.mono (by decide)) b_Walk_clock .nil pass0 (pa_cons (pv 2) (pa_cons pe_int pa_nil))))
        (pss_cons (ps_set (i := 4) sc_Walk_take.nd rfl (Or.inl rfl) (pe_call G_march_of (hr.mono (by decide)) rfl (glo_march_of T) kp_march_of b_march_of .nil pass0 (pa_cons (pv 1) pa_nil)))
        (pss_one (ps_if (pt_cmpR op_notN (pv 4) pe_non (nomark _)) (pss_cons (ps_set (i := 5) sc_Walk_take.nd rfl (Or.inl rfl) (PE.or (pe_meth (pv 4) (cls_Onward T) (m_Onward_goal T) G_Onward_goal (hr.mono (by decide)) b_Onward_goal .nil pass0 (pa_cons (pe_fld (pv 0) rfl) (pa_cons (pe_fld (pv 0) rfl) pa_nil))) (PE.or (pe_meth (pv 4) (cls_Backward T) (m_Backward_goal T) G_Backward_goal (hr.mono (by decide)) b_Backward_goal .nil pass0 (pa_cons (pe_fld (pv 0) rfl) (pa_cons (pe_fld (pv 0) rfl) pa_nil))) (pe_meth (pv 4) (cls_Straight T) (m_Straight_goal T) G_Straight_goal (hr.mono (by decide)) b_Straight_goal .nil pass0 (pa_cons (pe_fld (pv 0) rfl) (pa_cons (pe_fld (pv 0) rfl) pa_nil))))))
        (pss_one (ps_if (pt_cmpR op_notN (pv 5) pe_non (nomark _)) (pss_cons (ps_expr (pe_meth (pv 0) (cls_Walk T) (m_Walk_let_on T) G_Walk_let_on (hr.mono (by decide)) b_Walk_let_on .nil pass0 (pa_cons (pv 2) pa_nil)))
        (pss_one (ps_expr (pe_meth (pv 0) (cls_Walk T) (m_Walk_arrive T) G_Walk_arrive (hr.mono (by decide)) b_Walk_arrive .nil pass0 (pa_cons (pv 3) (pa_cons (pv 5) (pa_cons (PE.or (pe_meth0 (pv 4) (cls_Onward T) (m_Onward_word T) G_March_word (hr.mono (by decide)) b_March_word .nil pass0) (PE.or (pe_meth0 (pv 4) (cls_Backward T) (m_Backward_word T) G_Backward_word (hr.mono (by decide)) b_Backward_word .nil pass0) (pe_meth0 (pv 4) (cls_Straight T) (m_Straight_word T) G_March_word (hr.mono (by decide)) b_March_word .nil pass0))) pa_nil))))))) pss_nil))) (pss_one (ps_if (pt_cmpR op_eq (pe_ix ix_tup (pv 1) pe_int (fun _ _ => rfl)) pe_str (nomark _)) (pss_one (ps_fldK (pv 0) (pv 3) rfl)) (pss_one (ps_if (pt_cmpR op_eq (pe_ix ix_tup (pv 1) pe_int (fun _ _ => rfl)) pe_str (nomark _)) (pss_one (ps_expr (pe_meth (pv 0) (cls_Walk T) (m_Walk_let_on T) G_Walk_let_on (hr.mono (by decide)) b_Walk_let_on .nil pass0 (pa_cons (pv 2) pa_nil)))) (pss_cons (ps_fldK (pv 0) (pe_call G_cue_list (hr.mono (by decide)) rfl (glo_cue_list T) kp_cue_list b_cue_list .nil (passes_call takes0 (fun _ _ _ _ h => h)) (pa_cons (pe_ix ix_tup (pv 1) pe_int (fun _ _ => rfl)) pa_nil)) rfl)
        (pss_one (ps_expr (pe_meth (pv 0) (cls_Walk T) (m_Walk_tell_row T) G_Walk_tell_row (hr.mono (by decide)) b_Walk_tell_row .nil pass0 (pa_cons (pv 3) (pa_cons pe_str pa_nil)))))))))))))))), ?_⟩
    obtain ⟨dx, hx⟩ := hw.ob
    have ll := left_le (n := w.n) (cs := cs)
    have hd1 := hw.base _ _ hd
    obtain ⟨r, hr0⟩ : ∃ r, d.v t = V.int t :: r := by cases d <;> exact ⟨_, rfl⟩
    rw [hr0] at hd1
    walk_at "wks"
    refine ⟨H0, x, hA, rA, xs, cs, ts, w, t, 1, rfl, hw, hc, ⟨by omega, by omega⟩, n0, by omega, fun ts1 H1 l1 n1 w1 => ?_⟩
    unfold WS.take at k
    generalize w.catchUp cs t 1 = v at *
    obtain ⟨dx1, hx1⟩ := w1.ob
    walk_at "wks"
    refine ⟨x, hA, rA, dx1, v.n, v.l, v.held, v.due, t, 1, rfl, hx1, ⟨by omega, by omega⟩, ?_⟩
    have ec : WS.clock ⟨v.n, v.l, v.held, v.due, []⟩ t 1 = v.clock t 1 := rfl
    rw [ec]
    refine ⟨_, rfl, dA, t, d, rfl, w1.base _ _ hd, fun m H2 s2 hm => ?_⟩
    have w2 := w1.same s2
    obtain ⟨dx2, hx2⟩ := w2.ob
    have hd2 := w2.base _ _ hd
    have hh2 := w2.base _ _ w2.here
    have hc2 := hc.same w2.base
    cases d with
    | go =>
      obtain ⟨mA, dm, rfl, hmA⟩ := hm
      walk_at "wks"
      refine .inl ?_
      walk_at "wks"
      refine ⟨mA, dm, hA, xs, cs, v.n, rfl, hmA, hh2, hc2, n1, fun H3 s3 => ?_⟩
      have w3 := w2.same s3
      have hm3 := s3 _ _ hmA
      obtain ⟨dx3, hx3⟩ := w3.ob
      have nm : mA ≠ x := ne_of hm3 hx3 (ins_ne (by first | (show (0 : Nat) ≠ 6; decide) | (show (1 : Nat) ≠ 6; decide)))
      cases hg : goalN cs v.n .go with
      | none =>
        have et : WS.take1 cs v t .go = v := by
          show (match goalN cs v.n .go with | some g => WS.arrive cs (v.letOn t) (v.clock t 1) g (Dd.goes .go) | none => v) = v
          rw [hg]
        rw [et] at k
        walk_at "wks"
        exact k _ _ (by omega) n1 w3
      | some g =>
        obtain ⟨g0, hgo⟩ := goal_ok hc.up hg
        have et : WS.take1 cs v t .go = WS.arrive cs (v.letOn t) (v.clock t 1) g true := by
          show (match goalN cs v.n .go with | some g => WS.arrive cs (v.letOn t) (v.clock t 1) g (Dd.goes .go) | none => v) = _
          rw [hg]
          rfl
        rw [et] at k
        walk_at "wks"
        refine ⟨H0, x, hA, rA, xs, ts1, v, t, rfl, w3, fun H4 m4 w4 => ?_⟩
        have hm4 := m4 _ _ nm hm3
        obtain ⟨dx4, hx4⟩ := w4.ob
        walk_at "wks"
        refine .inl ?_
        walk_at "wks"
        refine ⟨H0, x, hA, rA, xs, cs, ts1, v.letOn t, v.clock t 1, g, true, rfl, w4, hc, g0, by omega, hgo, fun t5 l5 H5 w5 => ?_⟩
        refine k _ _ ?_ g0 w5
        rw [List.length_append, List.length_singleton]
        omega
    | back =>
      obtain ⟨mA, dm, rfl, hmA⟩ := hm
      walk_at "wks"
      refine .inr <| .inl ?_
      walk_at "wks"
      refine ⟨mA, dm, hA, xs, cs, v.n, rfl, hmA, hh2, hc2, n1, fun H3 s3 => ?_⟩
      have w3 := w2.same s3
      have hm3 := s3 _ _ hmA
      obtain ⟨dx3, hx3⟩ := w3.ob
      have nm : mA ≠ x := ne_of hm3 hx3 (ins_ne (by first | (show (0 : Nat) ≠ 6; decide) | (show (1 : Nat) ≠ 6; decide)))
      cases hg : goalN cs v.n .back with
      | none =>
        have et : WS.take1 cs v t .back = v := by
          show (match goalN cs v.n .back with | some g => WS.arrive cs (v.letOn t) (v.clock t 1) g (Dd.goes .back) | none => v) = v
          rw [hg]
        rw [et] at k
        walk_at "wks"
        exact k _ _ (by omega) n1 w3
      | some g =>
        obtain ⟨g0, hgo⟩ := goal_ok hc.up hg
        have et : WS.take1 cs v t .back = WS.arrive cs (v.letOn t) (v.clock t 1) g false := by
          show (match goalN cs v.n .back with | some g => WS.arrive cs (v.letOn t) (v.clock t 1) g (Dd.goes .back) | none => v) = _
          rw [hg]
          rfl
        rw [et] at k
        walk_at "wks"
        refine ⟨H0, x, hA, rA, xs, ts1, v, t, rfl, w3, fun H4 m4 w4 => ?_⟩
        have hm4 := m4 _ _ nm hm3
        obtain ⟨dx4, hx4⟩ := w4.ob
        walk_at "wks"
        refine .inr <| .inl ?_
        walk_at "wks"
        refine ⟨H0, x, hA, rA, xs, cs, ts1, v.letOn t, v.clock t 1, g, false, rfl, w4, hc, g0, by omega, (fun z => nomatch z), fun t5 l5 H5 w5 => ?_⟩
        refine k _ _ ?_ g0 w5
        rw [List.length_append, List.length_singleton]
        omega
    | goto i =>
      obtain ⟨mA, dm, rfl, hmA⟩ := hm
      walk_at "wks"
      refine .inr <| .inr ?_
      walk_at "wks"
      refine ⟨mA, dm, hA, xs, cs, v.n, i, rfl, hmA, hh2, hc2, ?_⟩
      have w3 := w2
      have hm3 := hmA
      obtain ⟨dx3, hx3⟩ := w3.ob
      have nm : mA ≠ x := ne_of hm3 hx3 (ins_ne (by first | (show (0 : Nat) ≠ 6; decide) | (show (1 : Nat) ≠ 6; decide)))
      cases hg : goalN cs v.n (.goto i) with
      | none =>
        have et : WS.take1 cs v t (.goto i) = v := by
          show (match goalN cs v.n (.goto i) with | some g => WS.arrive cs (v.letOn t) (v.clock t 1) g (Dd.goes (.goto i)) | none => v) = v
          rw [hg]
        rw [et] at k
        walk_at "wks"
        exact k _ _ (by omega) n1 w3
      | some g =>
        obtain ⟨g0, hgo⟩ := goal_ok hc.up hg
        have et : WS.take1 cs v t (.goto i) = WS.arrive cs (v.letOn t) (v.clock t 1) g true := by
          show (match goalN cs v.n (.goto i) with | some g => WS.arrive cs (v.letOn t) (v.clock t 1) g (Dd.goes (.goto i)) | none => v) = _
          rw [hg]
          rfl
        rw [et] at k
        walk_at "wks"
        refine ⟨H0, x, hA, rA, xs, ts1, v, t, rfl, w3, fun H4 m4 w4 => ?_⟩
        have hm4 := m4 _ _ nm hm3
        obtain ⟨dx4, hx4⟩ := w4.ob
        walk_at "wks"
        refine .inr <| .inr ?_
        walk_at "wks"
        refine ⟨H0, x, hA, rA, xs, cs, ts1, v.letOn t, v.clock t 1, g, true, rfl, w4, hc, g0, by omega, hgo, fun t5 l5 H5 w5 => ?_⟩
        refine k _ _ ?_ g0 w5
        rw [List.length_append, List.length_singleton]
        omega
    | stop =>
      have hm : m = .non := hm
      subst hm
      have hd2 : H2 dA = some (.tup [.int t, .str "stop"]) := hd2
      walk_at "wks"
      rename_i H3 m3 h3
      exact k _ _ (by omega) n1 (w2.put (n := v.n) (l := v.l) (held := some (v.clock t 1)) (due := v.due) m3 h3)
    | on =>
      have hm : m = .non := hm
      subst hm
      have hd2 : H2 dA = some (.tup [.int t, .str "on"]) := hd2
      walk_at "wks"
      refine ⟨H0, x, hA, rA, xs, ts1, v, t, rfl, w2, fun H4 m4 w4 => ?_⟩
      exact k _ _ (by omega) (by show 0 ≤ (v.letOn t).n; unfold WS.letOn; split <;> exact n1) w4
abbrev De := Int × Dd
def DeedsAt (H : Hp) (as : List Addr) (ds : List De) : Prop := Paired (fun a (d : De) => H a = some (.tup (d.2.v d.1))) as ds
theorem DeedsAt.same {H H' : Hp} {as : List Addr} {ds : List De} (h : DeedsAt H as ds) (s : Same H H') : DeedsAt H' as ds := Paired.mapP h fun _ _ c => s _ _ c
theorem DeedsAt.at {H : Hp} : ∀ {as : List Addr} {ds : List De} {i : Nat} {y : V}, DeedsAt H as ds → (as.map V.ref)[i]? = some y → ∃ x d, y = .ref x ∧ ds[i]? = some d ∧ H x = some (.tup (d.2.v d.1))
  | _, _, 0, y, .cons (a := x) (b := d) h t, e => ⟨x, d, (Option.some.inj e).symm, rfl, h⟩
  | x :: as, d :: ds, i + 1, y, .cons h t, e => DeedsAt.at (as := as) (ds := ds) (i := i) t e
theorem DeedsAt.len {H : Hp} {as : List Addr} {ds : List De} (h : DeedsAt H as ds) : as.length = ds.length := Paired.length h
def UpD : Int → List De → Prop
  | _, [] => True
  | n, d :: r => n ≤ d.1 ∧ UpD d.1 r
def tickAt (n : Int) (ds : List De) (i : Nat) : Int := ((ds.take i).getLast?.map (·.1)).getD n
theorem up_at : ∀ {n : Int} {ds : List De} {i : Nat} {d : De}, UpD n ds → ds[i]? = some d → tickAt n ds i ≤ d.1 ∧ tickAt n ds (i + 1) = d.1
  | n, c :: r, 0, d, h, e => by
    have e2 : c = d := Option.some.inj e
    subst e2
    exact ⟨h.1, rfl⟩
  | n, c :: r, i + 1, d, h, e => by
    have ih := up_at (n := c.1) (i := i) h.2 (show r[i]? = some d from e)
    have k : ∀ j, tickAt n (c :: r) (j + 1) = tickAt c.1 r j := fun j => by
      unfold tickAt
      rw [List.take_succ_cons]
      cases h0 : (r.take j).getLast? with
      | none =>
        rw [List.getLast?_eq_none_iff] at h0
        rw [h0]
        rfl
      | some z =>
        rw [List.getLast?_cons, h0]
        rfl
    rw [k, k]
    exact ih
theorem Dd.head (d : Dd) (t : Int) : ∃ r, d.v t = V.int t :: r := by cases d <;> exact ⟨_, rfl⟩
structure SameUp (ds : List De) (l : Int) (r : List De) : Prop where
  iff : UpD 0 ds ↔ UpD l r
def spTicks (K : PySem.W.Frag) : Sp := fun vs H Q E => ∃ (dA : Addr) (as : List Addr) (ds : List De), vs = [.ref dA] ∧ H dA = some (.lst (as.map V.ref)) ∧ DeedsAt H as ds ∧ (UpD 0 ds → Q .non H) ∧ (¬ UpD 0 ds → E (.ref (He.ga K "Late")) none H)
theorem ok_look_at_ticks (T : Txt K mg) : ∃ fd, FnOk P w K mg base (L2.CX P w) 1 (He.fAd K ("look_at_ticks", none)) fd ["deeds"] (spTicks K) ∧ FunD K "look_at_ticks" "look_at_ticks" (defArgs s_look_at_ticks) (defBody s_look_at_ticks) (defScope s_look_at_ticks) [] [] (He.fAd K ("look_at_ticks", none)) fd := by
  obtain ⟨fd, F⟩ := T.c.def_ 33 (d := d_look_at_ticks) rfl
  refine ⟨fd, F.ok sc_look_at_ticks (by walk_at "g94len") (fun cdv A outer st H vs Q E hr h => ?_), F⟩
  · obtain ⟨dA, as, ds, rfl, hA, hd, k, kn⟩ := h
    refine ⟨_, (pss_cons (ps_set (i := 1) sc_look_at_ticks.nd rfl (Or.inl rfl) pe_int)
        (pss_one (ps_for (passes_of rfl) rfl (pi_list (pv 0)) (pg_name (i := 2) sc_look_at_ticks.nd rfl (Or.inl rfl)) (pss_cons (ps_if (pt_cmpR op_lt (pe_ix ix_tup (pv 2) pe_int (fun _ _ => rfl)) (pv 1) (nomark _)) (pss_one (ps_raise rfl (takes_of rfl rfl rfl rfl) (pmk_own PySem.F.excBase_ValueError (exc_Late T).1 (glo_Late T) (exc_Late T).2.1 (raises_own (exc_Late T).2.2.1 (exc_Late T).2.2.2) rfl))) pss_nil)
        (pss_one (ps_set (i := 1) sc_look_at_ticks.nd rfl (Or.inl rfl) (pe_ix ix_tup (pv 2) pe_int (fun _ _ => rfl)))))))), ?_⟩
    walk_at "wks"
    refine ⟨⟨_, .of hA⟩, for_list (K := K) (a := dA) (xs := as.map V.ref) (fun i σ' H' => ∃ (l : Int) (w : Option V), σ' = [some (.ref dA), some (.int l), w] ∧ H' = H ∧ SameUp ds l (ds.drop i)) ⟨_, _, rfl, rfl, ⟨Iff.rfl⟩⟩ (fun i σ' H' _ ⟨_, _, _, e, _⟩ => by rw [e]; exact .of hA) ?_ ?_⟩
    · rintro i y σ' H' hi ⟨l, w, rfl, rfl, hq⟩
      obtain ⟨x, d, rfl, hdi, hx⟩ := hd.at hi
      obtain ⟨r, er⟩ := d.2.head d.1
      rw [er] at hx
      rw [drop_at hdi] at hq
      walk_at "wks"
      refine iteD (fun c1 => ?_) (fun c1 => ?_)
      · exact kn fun q => by
          have := (hq.iff.mp q).1
          omega
      · walk_at "wks"
        exact ⟨hq.iff.trans ⟨fun q => q.2, fun q => ⟨by omega, q⟩⟩⟩
    · rintro σ' H' ⟨l, w, rfl, rfl, hq⟩
      rw [List.length_map, hd.len, List.drop_length] at hq
      exact k (hq.iff.mpr trivial)
def w0 : WS := ⟨0, 0, none, none, [(0, 0, "list")]⟩
def spWalk (K : PySem.W.Frag) : Sp := fun vs H Q _ => ∃ (H0 : Hp) (x dx hA : Addr) (xs : List Addr), vs = [.ref x, .ref hA] ∧ Same H0 H ∧ Fr H0 x ∧ H x = some (.ins (cW K) dx []) ∧ H0 hA = some (.lst (xs.map V.ref)) ∧
  ∀ (rA t l : Addr) H', WalkAt K H0 H' x hA rA xs [(t, l)] w0 → Q .non H'
theorem ok_Walk_init (T : Txt K mg) : ∃ fd, FnOk P w K mg base CX0 1 (He.fAd K ("Walk", some "__init__")) fd ["self", "cues"] (spWalk K) ∧ FunD K "__init__" "Walk.__init__" (defArgs s_Walk_init) (defBody s_Walk_init) (defScope s_Walk_init) [] [] (He.fAd K ("Walk", some "__init__")) fd := by
  obtain ⟨fd, F⟩ := T.c.def_ 26 (d := d_Walk_init) rfl
  have cl_Cue := cls_Cue T
  have na_Cue_number := na_Cue_number T
  have cl_Walk := cls_Walk T
  have na_Walk_here := na_Walk_here T
  have na_Walk_number := na_Walk_number T
  have na_Walk_lost := na_Walk_lost T
  have na_Walk_held := na_Walk_held T
  have na_Walk_due := na_Walk_due T
  have na_Walk_rows_told := na_Walk_rows_told T
  refine ⟨fd, F.ok sc_Walk_init (by walk_at "g94len") (fun cdv A outer st H vs Q E hr h => ?_), F⟩
  · obtain ⟨H0, x, dx, hA, xs, rfl, s0, f0, hx, hh, k⟩ := h
    refine ⟨_, PSs.nox (pss_cons (ps_fldK (pv 0) (pv 1) rfl)
        (pss_cons (ps_fldK (pv 0) pe_int rfl)
        (pss_cons (ps_fldK (pv 0) pe_int rfl)
        (pss_cons (ps_fldK (pv 0) pe_non rfl)
        (pss_cons (ps_fldK (pv 0) pe_non rfl)
        (pss_one (ps_fldK (pv 0) (pe_lstK (pa_cons (pe_tupK (pa_cons pe_int (pa_cons (pe_callTy call_listK (by rfl) (free_list T) (by decide +kernel) (pa_cons (pv 1) pa_nil)) (pa_cons pe_int (pa_cons pe_str pa_nil))))) pa_nil)) rfl))))))), ?_⟩
    have hh1 := s0 _ _ hh
    walk_at "wks"
    rename_i H1 m1 h1 H2 m2 h2 H3 m3 h3 H4 m4 h4 H5 m5 h5 l H6 f6 s6 h6 t H7 f7 s7 h7 rA H8 f8 s8 h8 H9 m9 h9
    have nl : l ≠ rA := neF f8 (s7 _ _ h6)
    refine k rA t l _ ⟨by walk_at "sm", f0, by walk_at "fr", ⟨dx, h9⟩, by walk_at "hp", .cons ⟨by walk_at "hp", by walk_at "hp"⟩ .nil, hh, ?_, ?_, by simp⟩
    · intro u hu
      cases List.mem_singleton.mp hu
      exact nl
    · intro u hu
      cases List.mem_singleton.mp hu
      walk_at "fr"
def walkN (cs : List Cu) (top b : Int) : WS → List De → WS
  | w, [] => w
  | w, d :: r => if top < d.1 * b then w else walkN cs top b (w.take cs d.1 d.2) r
def walked (cs : List Cu) (ds : List De) (top b : Int) : WS := (walkN cs top b w0 ds).catchUp cs top b
structure Told (H0 H : Hp) (p rA : Addr) (xs : List Addr) (ts : List (Addr × Addr)) (rs : List Row) (c b : Int) : Prop where
  base : Same H0 H
  fr : Fr H0 rA
  fp : Fr H0 p
  top : H p = some (.tup [.ref rA, .int c, .int b])
  rl : H rA = some (.lst (ts.map fun t => V.ref t.1))
  rs : RowsAt H xs ts rs
  apart : ∀ t ∈ ts, t.2 ≠ rA
  frs : ∀ t ∈ ts, Fr H0 t.2
  nd : (ts.map (·.2)).Nodup
/-! ### rows whose numbers are no less than 0 -/
structure RPos (w : WS) : Prop where
  n0 : 0 ≤ w.n
  rows : ∀ r ∈ w.rows, 0 ≤ r.2.1
theorem RPos.arrive {w : WS} {cs : List Cu} {c g : Int} {b : Bool} (f : RPos w) (g0 : 0 ≤ g) : RPos (WS.arrive cs w c g b) := by
  refine ⟨g0, fun r hr => ?_⟩
  have hr : r ∈ w.rows ++ [((c, g, wordB b) : Row)] := hr
  rcases List.mem_append.mp hr with hr | hr
  · exact f.rows r hr
  · rw [List.mem_singleton.mp hr]
    exact g0
theorem RPos.due {w : WS} (f : RPos w) (q : Option Int) : RPos { w with due := q } := ⟨f.n0, f.rows⟩
theorem RPos.catch {cs : List Cu} {t b : Int} : ∀ {k : Nat} {w : WS}, RPos w → RPos (catchN cs t b k w)
  | 0, w, f => f
  | k + 1, w, f => by
    unfold catchN
    cases hd : w.due with
    | none => exact f
    | some d =>
      show RPos (if d * b ≤ w.clock t b then (if 0 < aboveN w.n cs then catchN cs t b k (WS.arrive cs { w with due := none } d (aboveN w.n cs) true) else { w with due := none }) else w)
      split
      · split
        · rename_i h1 h2
          exact RPos.catch (k := k) ((f.due none).arrive (Int.le_of_lt h2))
        · exact f.due none
      · exact f
theorem RPos.letOn {w : WS} {t : Int} (f : RPos w) : RPos (w.letOn t) := by
  unfold WS.letOn
  cases w.held with
  | none => exact f
  | some h => exact ⟨f.n0, f.rows⟩
theorem RPos.take {cs : List Cu} (hu : Rising 0 cs) {w : WS} {t : Int} {d : Dd} (f : RPos w) : RPos (w.take cs t d) := by
  have f1 : RPos (w.catchUp cs t 1) := f.catch
  unfold WS.take
  generalize w.catchUp cs t 1 = v at *
  unfold WS.take1
  cases d with
  | stop => exact ⟨f1.n0, f1.rows⟩
  | on => exact f1.letOn
  | go =>
    show RPos (match goalN cs v.n .go with | some g => WS.arrive cs (v.letOn t) (v.clock t 1) g true | none => v)
    cases hg : goalN cs v.n .go with
    | none => exact f1
    | some g => exact f1.letOn.arrive (goal_ok hu hg).1
  | back =>
    show RPos (match goalN cs v.n .back with | some g => WS.arrive cs (v.letOn t) (v.clock t 1) g false | none => v)
    cases hg : goalN cs v.n .back with
    | none => exact f1
    | some g => exact f1.letOn.arrive (goal_ok hu hg).1
  | goto j =>
    show RPos (match goalN cs v.n (.goto j) with | some g => WS.arrive cs (v.letOn t) (v.clock t 1) g true | none => v)
    cases hg : goalN cs v.n (.goto j) with
    | none => exact f1
    | some g => exact f1.letOn.arrive (goal_ok hu hg).1
theorem RPos.walk {cs : List Cu} (hu : Rising 0 cs) {top b : Int} : ∀ {ds : List De} {w : WS}, RPos w → RPos (walkN cs top b w ds)
  | [], w, f => f
  | d :: r, w, f => by
    unfold walkN
    split
    · exact f
    · exact RPos.walk hu (ds := r) (f.take hu)
theorem walked_pos {cs : List Cu} (hu : Rising 0 cs) {ds : List De} {top b : Int} : RPos (walked cs ds top b) := by
  refine RPos.catch (RPos.walk hu ⟨Int.le_refl _, fun r hr => ?_⟩)
  have hr : r ∈ [((0, 0, "list") : Row)] := hr
  rw [List.mem_singleton.mp hr]
  exact Int.le_refl _
/-- the call of rows_of or of told, and how it ends -/
def Rowed (K : PySem.W.Frag) (H : Hp) (v : V) (dA : Addr) (E : XK) (good : List Addr → List Cu → List De → Prop) : Prop :=
  ∃ (as : List Addr) (ds : List De), H dA = some (.lst (as.map V.ref)) ∧ DeedsAt H as ds ∧ ds.length ≤ 100 ∧
    ((∃ (cA : Addr) (xs : List Addr) (cs : List Cu), v = .ref cA ∧ H cA = some (.lst (xs.map V.ref)) ∧ CuesIn K H xs cs ∧ cs.length ≤ 100 ∧ ((UpD 0 ds ∧ good xs cs ds) ∨ (¬ UpD 0 ds ∧ ∀ H', Same H H' → E (.ref (He.ga K "Late")) none H'))) ∨
     (BadL K H v ∧ E (.ref (He.ga K "NoList")) none H))
def spRows (K : PySem.W.Frag) : Sp := fun vs H Q E => ∃ (v : V) (dA : Addr) (top b : Int), vs = [v, .ref dA, .int top, .int b] ∧ BIn b ∧
  Rowed K H v dA E fun xs cs ds => ∀ p rA ts H', Told H H' p rA xs ts (walked cs ds top b).rows ((walked cs ds top b).clock top b) b → (∀ t ∈ ts, t.1 ≠ rA) → ts.length ≤ 20000 → Q (.ref p) H'
theorem ok_rows_of (T : Txt K mg) : ∃ fd, FnOk P w K mg base (L2.CX P w) 6 (He.fAd K ("rows_of", none)) fd ["cues", "deeds", "top", "bottom"] (spRows K) ∧ FunD K "rows_of" "rows_of" (defArgs s_rows_of) (defBody s_rows_of) (defScope s_rows_of) [V.int 1] [] (He.fAd K ("rows_of", none)) fd := by
  obtain ⟨fd, F⟩ := T.c.def_ 34 (d := d_rows_of) rfl
  obtain ⟨fd_Walk_init, G_Walk_init, F_Walk_init⟩ := ok_Walk_init (P := P) (w := w) (base := base) T
  have kp_Walk_init := F_Walk_init.kp
  have b_Walk_init : Binds K fd_Walk_init ["self", "cues"] [] := FunD.bindsN F_Walk_init (fun _ _ _ _ _ _ us hl => match us, hl with | [_, _], _ => rfl)
  obtain ⟨fd_look_at_ticks, G_look_at_ticks, F_look_at_ticks⟩ := ok_look_at_ticks (P := P) (w := w) (base := base) T
  have kp_look_at_ticks := F_look_at_ticks.kp
  have b_look_at_ticks : Binds K fd_look_at_ticks ["deeds"] [] := FunD.bindsN F_look_at_ticks (fun _ _ _ _ _ _ us hl => match us, hl with | [_], _ => rfl)
  obtain ⟨fd_Walk_catch_up, G_Walk_catch_up, F_Walk_catch_up⟩ := ok_Walk_catch_up (P := P) (w := w) (base := base) T
  have kp_Walk_catch_up := F_Walk_catch_up.kp
  have b_Walk_catch_up : Binds K fd_Walk_catch_up ["self", "top", "bottom"] [] := FunD.bindsN F_Walk_catch_up (fun _ _ _ _ _ _ us hl => match us, hl with | [_, _, _], _ => rfl)
  obtain ⟨fd_cue_list, G_cue_list, F_cue_list⟩ := ok_cue_list (P := P) (w := w) (base := base) T
  have kp_cue_list := F_cue_list.kp
  have b_cue_list : Binds K fd_cue_list ["cues"] [] := FunD.bindsN F_cue_list (fun _ _ _ _ _ _ us hl => match us, hl with | [_], _ => rfl)
  obtain ⟨fd_Walk_take, G_Walk_take, F_Walk_take⟩ := ok_Walk_take (P := P) (w := w) (base := base) T
  have kp_Walk_take := F_Walk_take.kp
  have b_Walk_take : Binds K fd_Walk_take ["self", "deed"] [] := FunD.bindsN F_Walk_take (fun _ _ _ _ _ _ us hl => match us, hl with | [_, _], _ => rfl)
  obtain ⟨fd_Walk_clock, G_Walk_clock, F_Walk_clock⟩ := ok_Walk_clock (P := P) (w := w) (base := base) T
  have kp_Walk_clock := F_Walk_clock.kp
  have b_Walk_clock : Binds K fd_Walk_clock ["self", "top", "bottom"] [] := FunD.bindsN F_Walk_clock (fun _ _ _ _ _ _ us hl => match us, hl with | [_, _, _], _ => rfl)
  have cl_Walk := cls_Walk T
  have na_Walk_rows_told := na_Walk_rows_told T
  refine ⟨fd, F.ok sc_rows_of (by walk_at "g94len") (fun cdv A outer st H vs Q E hr h => ?_), F⟩
  · obtain ⟨v, dA, top, b, rfl, hb, as, ds, hdA, hd, dl, ⟨cA, xs, cs, rfl, hcA, hc, cl, k⟩ | ⟨bad, k⟩⟩ := h
    · refine ⟨_, (pss_cons (ps_set (i := 4) sc_rows_of.nd rfl (Or.inl rfl) (pe_makeK (mk_Walk T) G_Walk_init (hr.mono (by decide)) rfl (glo_Walk T) b_Walk_init .nil pass0 (pa_cons (pe_call G_cue_list (hr.mono (by decide)) rfl (glo_cue_list T) kp_cue_list b_cue_list .nil (passes_call (takes_of rfl rfl rfl rfl) (fun _ _ _ _ h => h)) (pa_cons (pv 0) pa_nil)) pa_nil)))
        (pss_cons (ps_expr (pe_call G_look_at_ticks (hr.mono (by decide)) rfl (glo_look_at_ticks T) kp_look_at_ticks b_look_at_ticks .nil (passes_call (takes_of rfl rfl rfl rfl) (fun _ _ _ _ h => h)) (pa_cons (pv 1) pa_nil)))
        (C8.pss_cut (ps_for (passes_of rfl) rfl (pi_list (pv 1)) (pg_name (i := 5) sc_rows_of.nd rfl (Or.inl rfl)) (pss_cons (ps_if (pt_cmpR op_gt (pe_op op_mul (pe_ix ix_tup (pv 5) pe_int (fun _ _ => rfl)) (pv 3)) (pv 2) (nomark _)) (pss_one ps_break) pss_nil)
        (pss_one (ps_expr (pe_meth (pv 4) (cls_Walk T) (m_Walk_take T) G_Walk_take (hr.mono (by decide)) b_Walk_take .nil pass0 (pa_cons (pv 5) pa_nil))))))
        (pss_cons (ps_expr (pe_meth (pv 4) (cls_Walk T) (m_Walk_catch_up T) G_Walk_catch_up (hr.mono (by decide)) b_Walk_catch_up .nil pass0 (pa_cons (pv 2) (pa_cons (pv 3) pa_nil))))
        (pss_one (ps_ret (pe_tupK (pa_cons (pe_fld (pv 4) rfl) (pa_cons (pe_meth (pv 4) (cls_Walk T) (m_Walk_clock T) G_Walk_clock (hr.mono (by decide)) b_Walk_clock .nil pass0 (pa_cons (pv 2) (pa_cons (pv 3) pa_nil))) (pa_cons (pv 3) pa_nil)))))))))), ?_⟩
      refine ⟨_, rfl, _, rfl, .inl ⟨cA, xs, cs, rfl, hcA, hc, fun pA H1 f1 s1 h1 => ?_⟩⟩
      intro x dx H2 f2 s2 h2
      refine ⟨H1, x, dx, pA, xs, rfl, s2, f2, h2, h1, fun rA t l H3 w3 => ⟨rfl, ?_⟩⟩
      have sH := s1.trans w3.base
      have hcW := hc.same s1
      refine ⟨_, rfl, dA, as, ds, rfl, sH _ _ hdA, hd.same sH, fun hu => ?_, fun hn => ?_⟩
      rotate_left
      · rcases k with ⟨hu, _⟩ | ⟨_, k⟩
        · exact absurd hu hn
        · exact k _ sH
      replace k : ∀ p rA ts H', Told H H' p rA xs ts (walked cs ds top b).rows ((walked cs ds top b).clock top b) b → (∀ t ∈ ts, t.1 ≠ rA) → ts.length ≤ 20000 → Q (.ref p) H' := by
        rcases k with ⟨_, k⟩ | ⟨hn, _⟩
        · exact k
        · exact absurd hu hn
      refine ⟨fun σ' H' => ∃ (v : Option V) (ts1 : List (Addr × Addr)), σ' = [some (.ref cA), some (.ref dA), some (.int top), some (.int b), some (.ref x), v] ∧ WalkAt K H1 H' x pA rA xs ts1 (walkN cs top b w0 ds) ∧ 0 ≤ (walkN cs top b w0 ds).n ∧ ts1.length ≤ 1 + 100 * 101, ?_, ?_⟩
      · refine ⟨_, rfl, dA, rfl, ⟨_, .of (sH _ _ hdA)⟩, for_list (K := K) (a := dA) (xs := as.map V.ref) (fun i σ' H' => ∃ (v : Option V) (ts1 : List (Addr × Addr)) (w : WS), σ' = [some (.ref cA), some (.ref dA), some (.int top), some (.int b), some (.ref x), v] ∧ WalkAt K H1 H' x pA rA xs ts1 w ∧ 0 ≤ w.n ∧ ts1.length ≤ 1 + i * 101 ∧ walkN cs top b w0 ds = walkN cs top b w (ds.drop i))
          ⟨_, _, w0, rfl, w3, Int.le_refl 0, by simp, rfl⟩ (fun i σ' H' _ ⟨_, _, _, _, q, _⟩ => .of (q.base _ _ (s1 _ _ hdA))) ?_ ?_⟩
        · rintro i y σ' H4 hi ⟨v, ts1, w, rfl, w4, n4, l4, e4⟩
          have hdW := (hd.same s1).same w4.base
          obtain ⟨a, d, rfl, hdi, ha⟩ := (hd.same s1).at hi
          have ha4 := w4.base _ _ ha
          have hil : i < ds.length := (List.getElem?_eq_some_iff.mp hdi).1
          obtain ⟨r, er⟩ := d.2.head d.1
          have ha5 := ha4
          rw [er] at ha5
          rw [drop_at hdi] at e4
          obtain ⟨b0, b1⟩ := id hb
          walk_at "wks"
          refine iteD (fun c1 => ?_) (fun c1 => ?_)
          · have e5 : walkN cs top b w0 ds = w := e4.trans (if_pos c1)
            rw [e5]
            exact ⟨_, ts1, rfl, w4, n4, by omega⟩
          · have e5 : walkN cs top b w0 ds = walkN cs top b (w.take cs d.1 d.2) (ds.drop (i + 1)) := e4.trans (if_neg c1)
            obtain ⟨dx4, hx4⟩ := w4.ob
            walk_at "wks"
            refine ⟨H1, x, pA, rA, a, xs, cs, ts1, w, d.1, d.2, rfl, w4, hcW, ha, n4, by omega, fun ts2 H5 l5 n5 w5 => ?_⟩
            exact ⟨_, ts2, _, rfl, w5, n5, by omega, e5⟩
        · rintro σ' H4 ⟨v, ts1, w, rfl, w4, n4, l4, e4⟩
          rw [List.length_map, hd.len, List.drop_length] at e4
          have e5 : walkN cs top b w0 ds = w := e4
          rw [e5]
          rw [List.length_map, hd.len] at l4
          exact ⟨v, ts1, rfl, w4, n4, by omega⟩
      · rintro σ' H4 ⟨v, ts1, rfl, w4, n4, l4⟩
        obtain ⟨dx4, hx4⟩ := w4.ob
        have ll := left_le (n := (walkN cs top b w0 ds).n) (cs := cs)
        walk_at "wks"
        refine ⟨H1, x, pA, rA, xs, cs, ts1, _, top, b, rfl, w4, hcW, hb, n4, by omega, fun ts2 H5 l5 n5 w5 => ?_⟩
        obtain ⟨dx5, hx5⟩ := w5.ob
        have w5 : WalkAt K H1 H5 x pA rA xs ts2 (walked cs ds top b) := w5
        have hx5 : H5 x = some (.ins (cW K) dx5 (wfl pA (walked cs ds top b).n (walked cs ds top b).l (walked cs ds top b).held (walked cs ds top b).due rA)) := hx5
        generalize walked cs ds top b = z at *
        walk_at "wks"
        refine ⟨x, pA, rA, dx5, z.n, z.l, z.held, z.due, top, b, rfl, hx5, hb, ?_⟩
        walk_at "wks"
        rename_i q H6 f6 s6 h6
        have w6 := w5.same s6
        refine k q rA ts2 _ ⟨s1.trans w6.base, w6.fr.back s1, f6.back (s1.trans w5.base), h6, w6.rl, w6.rs, w6.apart, fun u hu => (w6.frs u hu).back s1, w6.nd⟩ (fun t ht => ?_) (by omega)
        have rs6 := w6.rs
        have rl6 := w6.rl
        have at_ : ∀ {ts : List (Addr × Addr)} {rs : List Row}, RowsAt H6 xs ts rs → ∀ t ∈ ts, t.1 ≠ rA := by
          intro ts rs h
          unfold RowsAt at h
          induction h with
          | nil => exact fun t ht => nomatch ht
          | @cons t r ts rs p _ ih =>
            intro u hu
            rcases List.mem_cons.mp hu with rfl | hu
            · exact ne_of p.1 rl6 (by intro z; cases z)
            · exact ih u hu
        exact at_ rs6 t ht
    · refine ⟨_, (pss_cons (ps_set (i := 4) sc_rows_of.nd rfl (Or.inl rfl) (pe_makeK (mk_Walk T) G_Walk_init (hr.mono (by decide)) rfl (glo_Walk T) b_Walk_init .nil pass0 (pa_cons (pe_call G_cue_list (hr.mono (by decide)) rfl (glo_cue_list T) kp_cue_list b_cue_list .nil (passes_call (takes_of rfl rfl rfl rfl) (fun _ _ _ _ h => h)) (pa_cons (pv 0) pa_nil)) pa_nil)))
        (pss_cons (ps_expr (pe_call G_look_at_ticks (hr.mono (by decide)) rfl (glo_look_at_ticks T) kp_look_at_ticks b_look_at_ticks .nil (passes_call (takes_of rfl rfl rfl rfl) (fun _ _ _ _ h => h)) (pa_cons (pv 1) pa_nil)))
        (C8.pss_cut (ps_for (passes_of rfl) rfl (pi_list (pv 1)) (pg_name (i := 5) sc_rows_of.nd rfl (Or.inl rfl)) (pss_cons (ps_if (pt_cmpR op_gt (pe_op op_mul (pe_ix ix_tup (pv 5) pe_int (fun _ _ => rfl)) (pv 3)) (pv 2) (nomark _)) (pss_one ps_break) pss_nil)
        (pss_one (ps_expr (pe_meth (pv 4) (cls_Walk T) (m_Walk_take T) G_Walk_take (hr.mono (by decide)) b_Walk_take .nil pass0 (pa_cons (pv 5) pa_nil))))))
        (pss_cons (ps_expr (pe_meth (pv 4) (cls_Walk T) (m_Walk_catch_up T) G_Walk_catch_up (hr.mono (by decide)) b_Walk_catch_up .nil pass0 (pa_cons (pv 2) (pa_cons (pv 3) pa_nil))))
        (pss_one (ps_ret (pe_tupK (pa_cons (pe_fld (pv 4) rfl) (pa_cons (pe_meth (pv 4) (cls_Walk T) (m_Walk_clock T) G_Walk_clock (hr.mono (by decide)) b_Walk_clock .nil pass0 (pa_cons (pv 2) (pa_cons (pv 3) pa_nil))) (pa_cons (pv 3) pa_nil)))))))))), ?_⟩
      exact ⟨_, rfl, _, rfl, .inr ⟨bad, k⟩⟩
abbrev cA (K : PySem.W.Frag) : Addr := He.ga K "Aim"
structure AimAt (K : PySem.W.Frag) (H : Hp) (x : Addr) : Prop where
  ob : ∃ (dx l : Addr) (c n : Int) (q : V), H x = some (.ins (cA K) dx [("clock_told", .int c), ("look", .ref l), ("cue", q), ("length", .int n)]) ∧ H l = some (.dK [])
theorem AimAt.same {K : PySem.W.Frag} {H H' : Hp} {x : Addr} (h : AimAt K H x) (s : Same H H') : AimAt K H' x := by
  obtain ⟨dx, l, c, n, q, h1, h2⟩ := h.ob
  exact ⟨⟨dx, l, c, n, q, s _ _ h1, s _ _ h2⟩⟩
theorem PartAt.butG {K : PySem.W.Frag} {H H' : Hp} {x y C dx : Addr} {fs : List (Str × V)} (h : PartAt K H y) (m : But x H H') (hx : H x = some (.ins C dx fs)) (l : fs.length < 4) : PartAt K H' y := by
  obtain ⟨dy, t, a, r, f, w, h1, h2, h3⟩ := h.ob
  exact ⟨⟨dy, t, a, r, f, w, m.kind hx h1 (ins_ne (by show (5 : Nat) ≠ _; omega)), m.kind hx h2 (by intro z; cases z), m.kind hx h3 (by intro z; cases z)⟩⟩
theorem CueAt.butG {K : PySem.W.Frag} {H H' : Hp} {x y C dx : Addr} {fs : List (Str × V)} {c : Cu} (h : CueAt K H y c) (m : But x H H') (hx : H x = some (.ins C dx fs)) (l : fs.length < 4) : CueAt K H' y c := by
  obtain ⟨dy, a, p, h1, h2, h3⟩ := h.ob
  exact ⟨⟨dy, a, p, m.kind hx h1 (ins_ne (by show (4 : Nat) ≠ _; omega)), m.kind hx h2 (by intro z; cases z), h3.butG m hx l⟩⟩
theorem CuesIn.butG {K : PySem.W.Frag} {H H' : Hp} {x C dx : Addr} {fs : List (Str × V)} {xs : List Addr} {cs : List Cu} (h : CuesIn K H xs cs) (m : But x H H') (hx : H x = some (.ins C dx fs)) (l : fs.length < 4) : CuesIn K H' xs cs :=
  ⟨Paired.mapP h.at_ fun _ _ c => c.butG m hx l, h.up, h.few⟩
def spAim (K : PySem.W.Frag) : Sp := fun vs H Q _ => ∃ (x dx t l : Addr) (xs : List Addr) (cs : List Cu) (c n : Int) (w : Str), vs = [.ref x, .ref t] ∧ H x = some (.ins (cA K) dx []) ∧ H t = some (.tup [.int c, .ref l, .int n, .str w]) ∧ H l = some (.lst (xs.map V.ref)) ∧ CuesIn K H xs cs ∧ 0 ≤ n ∧ ∀ H', But x H H' → AimAt K H' x → Q .non H'
theorem ok_Aim_init (T : Txt K mg) : ∃ fd, FnOk P w K mg base CX0 4 (He.fAd K ("Aim", some "__init__")) fd ["self", "row"] (spAim K) ∧ FunD K "__init__" "Aim.__init__" (defArgs s_Aim_init) (defBody s_Aim_init) (defScope s_Aim_init) [] [] (He.fAd K ("Aim", some "__init__")) fd := by
  obtain ⟨fd, F⟩ := T.c.def_ 35 (d := d_Aim_init) rfl
  obtain ⟨fd_shown, G_shown, F_shown⟩ := ok_shown (P := P) (w := w) (base := base) T
  have kp_shown := F_shown.kp
  have b_shown : Binds K fd_shown ["cues", "number"] [] := FunD.bindsN F_shown (fun _ _ _ _ _ _ us hl => match us, hl with | [_, _], _ => rfl)
  obtain ⟨fd_cue_at, G_cue_at, F_cue_at⟩ := ok_cue_at (P := P) (w := w) (base := base) T
  have kp_cue_at := F_cue_at.kp
  have b_cue_at : Binds K fd_cue_at ["cues", "number"] [] := FunD.bindsN F_cue_at (fun _ _ _ _ _ _ us hl => match us, hl with | [_, _], _ => rfl)
  obtain ⟨t_BACK, g_BACK⟩ := int_BACK T
  have cl_Aim := cls_Aim T
  have na_Aim_clock_told := na_Aim_clock_told T
  have na_Aim_look := na_Aim_look T
  have na_Aim_cue := na_Aim_cue T
  have na_Aim_length := na_Aim_length T
  refine ⟨fd, F.ok sc_Aim_init (by walk_at "g94len") (fun cdv A outer st H vs Q E hr h => ?_), F⟩
  · obtain ⟨x, dx, t, l, xs, cs, c, n, w, rfl, hx, ht, hl, hc, n0, k⟩ := h
    refine ⟨_, PSs.nox (pss_cons (ps_fldK (pv 0) (pe_ix ix_tup (pv 1) pe_int (fun _ _ => rfl)) rfl)
        (pss_cons (ps_fldK (pv 0) (pe_call G_shown (hr.mono (by decide)) rfl (glo_shown T) kp_shown b_shown .nil pass0 (pa_cons (pe_ix ix_tup (pv 1) pe_int (fun _ _ => rfl)) (pa_cons (pe_ix ix_tup (pv 1) pe_int (fun _ _ => rfl)) pa_nil))) rfl)
        (pss_cons (ps_fldK (pv 0) pe_non rfl)
        (C8.pss_cut (ps_if (pt_cmpR op_eq (pe_ix ix_tup (pv 1) pe_int (fun _ _ => rfl)) pe_str (nomark _)) (pss_one (ps_fldK (pv 0) (pe_call G_cue_at (hr.mono (by decide)) rfl (glo_cue_at T) kp_cue_at b_cue_at .nil pass0 (pa_cons (pe_ix ix_tup (pv 1) pe_int (fun _ _ => rfl)) (pa_cons (pe_ix ix_tup (pv 1) pe_int (fun _ _ => rfl)) pa_nil))) rfl)) pss_nil)
        (pss_cons (ps_fldK (pv 0) pe_int rfl)
        (pss_one (ps_if (pt_cmpR op_eq (pe_ix ix_tup (pv 1) pe_int (fun _ _ => rfl)) pe_str (nomark _)) (pss_one (ps_fldK (pv 0) (pe_glob (v := .int 1000) rfl g_BACK ⟨_, rfl⟩) rfl)) pss_nil))))))), ?_⟩
    walk_at "wks"
    rename_i H1 m1 e1
    have hc1 := hc.butG m1 hx (by decide)
    have hl1 := m1.kind hx hl (by intro z; cases z)
    have ht1 := m1.kind hx ht (by intro z; cases z)
    refine ⟨l, xs, cs, n, rfl, hl1, hc1, n0, fun q H2 s2 h2 => ?_⟩
    have e2 := s2 _ _ e1
    have ht2 := s2 _ _ ht1
    have hc2 := hc1.same s2
    have hl2 := s2 _ _ hl1
    have mA := m1.same s2
    clear ht1 hl1 hc1 e1
    walk_at "wks"
    rename_i H3 m3 e3 H4 m4 e4
    have M := m3.trans m4
    refine ⟨fun σ' H' => σ' = [some (.ref x), some (.ref t)] ∧ But x H2 H' ∧ ∃ v : V, H' x = some (.ins (cA K) dx [("clock_told", .int c), ("look", .ref q), ("cue", v)]), ?_, ?_⟩
    · have ht4 := M.kind e2 ht2 (by intro z; cases z)
      have hl4 := M.kind e2 hl2 (by intro z; cases z)
      have hc4 := hc2.butG M e2 (by show (1 : Nat) < 4; decide)
      walk_at "wks"
      refine iteD (fun c1 => ?_) (fun c1 => ?_)
      · walk_at "wks"
        refine ⟨l, xs, cs, n, rfl, hl4, hc4, n0, fun cc _ y H5 s5 hy => ?_, fun _ H5 s5 => ?_⟩
        · have e5 := s5 _ _ e4
          walk_at "wks"
          rename_i H6 m6 e6
          exact ⟨(M.same s5).trans m6, _, e6⟩
        · have e5 := s5 _ _ e4
          walk_at "wks"
          rename_i H6 m6 e6
          exact ⟨(M.same s5).trans m6, _, e6⟩
      · exact ⟨rfl, M, _, e4⟩
    · rintro σ' H5 ⟨rfl, M5, v, e5⟩
      have ht5 := M5.kind e2 ht2 (by intro z; cases z)
      walk_at "wks"
      rename_i H6 m6 e6
      have M6 := M5.trans m6
      have ht6 := M6.kind e2 ht2 (by intro z; cases z)
      walk_at "wks"
      refine iteD (fun c1 => ?_) (fun c1 => ?_)
      · walk_at "wks"
        rename_i H7 m7 e7
        exact k _ (mA.trans (M6.trans m7)) ⟨⟨dx, q, c, _, v, e7, (M6.trans m7).kind e2 h2 (by intro z; cases z)⟩⟩
      · exact k _ (mA.trans M6) ⟨⟨dx, q, c, _, v, e6, M6.kind e2 h2 (by intro z; cases z)⟩⟩
def spSlotsOf (K : PySem.W.Frag) : Sp := fun vs H Q _ => ∃ (a : Addr) (xs : List Addr), vs = [.ref a] ∧ H a = some (.lst (xs.map V.ref)) ∧ (∀ x ∈ xs, AimAt K H x) ∧ ∀ (p : Addr) H', Same H H' → H' p = some (.lst []) → Q (.ref p) H'
theorem ok_slots_of (T : Txt K mg) : ∃ fd, FnOk P w K mg base CX0 1 (He.fAd K ("slots_of", none)) fd ["aims"] (spSlotsOf K) ∧ FunD K "slots_of" "slots_of" (defArgs s_slots_of) (defBody s_slots_of) (defScope s_slots_of) [] [] (He.fAd K ("slots_of", none)) fd := by
  obtain ⟨fd, F⟩ := T.c.def_ 36 (d := d_slots_of) rfl
  have cl_Aim := cls_Aim T
  have na_Aim_look := na_Aim_look T
  refine ⟨fd, F.ok sc_slots_of (by walk_at "g94len") (fun cdv A outer st H vs Q E hr h => ?_), F⟩
  · obtain ⟨a, xs, rfl, ha, hx, k⟩ := h
    refine ⟨_, PSs.nox (pss_cons (ps_set (i := 1) sc_slots_of.nd rfl (Or.inl rfl) pe_dnewKK)
        (pss_cons (ps_for PassesOwn.never rfl (pi_list (pv 0)) (pg_name (i := 2) sc_slots_of.nd rfl (Or.inl rfl)) (pss_one (ps_lock (ps_for PassesOwn.never rfl (pi_keys (pe_fld (pv 2) rfl)) (pg_name (i := 3) sc_slots_of.nd rfl (Or.inl rfl)) pss_never))))
        (pss_one (ps_ret (pe_callTy (call_listDK rfl) (by rfl) (free_list T) (by decide +kernel) (pa_cons (pv 1) pa_nil)))))), ?_⟩
    walk_at "wks"
    rename_i f H1 f1 s1 h1
    have ha1 := s1 _ _ ha
    refine ⟨⟨_, .of ha1⟩, for_list (K := K) (a := a) (xs := xs.map V.ref) (fun i σ' H' => ∃ v w : Option V, σ' = [some (.ref a), some (.ref f), v, w] ∧ H' = H1) ⟨_, _, rfl, rfl⟩ (fun i σ' H' _ ⟨_, _, _, e⟩ => by rw [e]; exact .of ha1) ?_ ?_⟩
    · rintro i y σ' H' hi ⟨v, w, rfl, rfl⟩
      obtain ⟨x, hxm, rfl⟩ := List.mem_map.mp (List.mem_of_getElem? hi)
      obtain ⟨dx, l, c, n, q, e1, e2⟩ := ((hx x hxm).same s1).ob
      refine lock_keys0 (d := l) e2 (fun od Q q => ⟨_, rfl, _, _, _, _, _, rfl, updN (ne_of e1 e2 (by intro z; cases z)) e1, cl_Aim, na_Aim_look, (by walk_at "lk"), q⟩) ?_
      exact ⟨_, _, rfl, rfl⟩
    · rintro σ' H' ⟨v, w, rfl, rfl⟩
      walk_at "wks"
      exact k _ _ (by walk_at "sm") (by assumption)
theorem AimAt.put {K : PySem.W.Frag} {D : Addr} {H H' : Hp} {x : Addr} {zs : List V} (h : AimAt K H x) (m : But D H H') (e : H D = some (.lst zs)) : AimAt K H' x := by
  obtain ⟨dx, l, c, n, q, h1, h2⟩ := h.ob
  exact ⟨⟨dx, l, c, n, q, m.kind e h1 (by intro z; cases z), m.kind e h2 (by intro z; cases z)⟩⟩
theorem RowsAt.ref {H : Hp} {xs : List Addr} : ∀ {ts : List (Addr × Addr)} {rs : List Row} {i : Nat} {y : V}, RowsAt H xs ts rs → (ts.map fun t => V.ref t.1)[i]? = some y → ∃ t r, y = .ref t.1 ∧ r ∈ rs ∧ RowAt H xs t r
  | _, _, 0, y, .cons (a := t) (b := r) h _, e => ⟨t, r, (Option.some.inj e).symm, List.mem_cons_self, h⟩
  | t :: ts, r :: rs, i + 1, y, .cons _ h, e => by
    obtain ⟨t', r', e1, e2, e3⟩ := RowsAt.ref (ts := ts) (rs := rs) (i := i) h e
    exact ⟨t', r', e1, List.mem_cons_of_mem _ e2, e3⟩
def spTold (K : PySem.W.Frag) : Sp := fun vs H Q E => ∃ (v : V) (dA : Addr) (top b : Int), vs = [v, .ref dA, .int top, .int b] ∧ BIn b ∧ Rowed K H v dA E fun _ _ _ => ∀ (p : Addr) H', Same H H' → Q (.ref p) H'
theorem ok_told (T : Txt K mg) : ∃ fd, FnOk P w K mg base (L2.CX P w) 7 (He.fAd K ("told", none)) fd ["cues", "deeds", "top", "bottom"] (spTold K) ∧ FunD K "told" "told" (defArgs s_told) (defBody s_told) (defScope s_told) [V.int 1] [] (He.fAd K ("told", none)) fd := by
  obtain ⟨fd, F⟩ := T.c.def_ 37 (d := d_told) rfl
  obtain ⟨fd_rows_of, G_rows_of, F_rows_of⟩ := ok_rows_of (P := P) (w := w) (base := base) T
  have kp_rows_of := F_rows_of.kp
  obtain ⟨d0_rows_of, v0_rows_of, b0_rows_of⟩ : ∃ ds, Vals ([V.int 1].drop 1) ds ∧ Binds K fd_rows_of ["cues", "deeds", "top", "bottom"] ds := F_rows_of.binds1 4 1 (by decide) rfl (fun _ _ _ _ _ _ _ us its h1 h2 => match us, its, h1, h2 with | [_, _, _, _], [_], _, _ => ⟨_, rfl, rfl⟩)
  obtain ⟨fd_slots_of, G_slots_of, F_slots_of⟩ := ok_slots_of (P := P) (w := w) (base := base) T
  have kp_slots_of := F_slots_of.kp
  have b_slots_of : Binds K fd_slots_of ["aims"] [] := FunD.bindsN F_slots_of (fun _ _ _ _ _ _ us hl => match us, hl with | [_], _ => rfl)
  obtain ⟨fd_Aim_init, G_Aim_init, F_Aim_init⟩ := ok_Aim_init (P := P) (w := w) (base := base) T
  have kp_Aim_init := F_Aim_init.kp
  have b_Aim_init : Binds K fd_Aim_init ["self", "row"] [] := FunD.bindsN F_Aim_init (fun _ _ _ _ _ _ us hl => match us, hl with | [_, _], _ => rfl)
  refine ⟨fd, F.ok sc_told (by walk_at "g94len") (fun cdv A outer st H vs Q E hr h => ?_), F⟩
  · obtain ⟨v, dA, top, b, rfl, hb, as, ds, hdA, hd, dl, hk⟩ := h
    refine ⟨_, (pss_cons (ps_asg (pe_call G_rows_of (hr.mono (by decide)) rfl (glo_rows_of T) kp_rows_of b0_rows_of v0_rows_of (passes_call (takes_of rfl rfl rfl rfl) (fun _ _ _ _ h => h)) (pa_cons (pv 0) (pa_cons (pv 1) (pa_cons (pv 2) (pa_cons (pv 3) pa_nil))))) (pg_tup rfl (pgs_cons (pg_name (i := 4) sc_told.nd rfl (Or.inl rfl)) (pgs_cons (pg_name (i := 5) sc_told.nd rfl (Or.inl rfl)) (pgs_cons (pg_name (i := 6) sc_told.nd rfl (Or.inl rfl)) pgs_nil)))))
        (pss_cons (ps_setLc (i := 7) (own := [("row", 11)]) (g := upG (gName 11)) rfl sc_told.nd rfl rfl (sw_true rfl rfl rfl (by decide +kernel)) (pi_list (pv 4)) (blkOk_by (own := [("row", 11)]) (N := ["cues", "deeds", "top", "bottom", "rows", "clock", "part", "aims", "look", "slot", "worth", "row"]) (sc := defScope s_told) (by decide +kernel)) (fun _ _ _ _ _ => (PG.up (pg_name (i := 11) sc_told.nd rfl (Or.inl rfl)))) (fun _ _ _ _ _ => (PTs.up pts_nil)) (fun _ _ _ _ _ => (PE.up (pe_makeK (mk_Aim T) G_Aim_init (hr.mono (by decide)) rfl (glo_Aim T) b_Aim_init .nil pass0 (pa_cons (pv 11) pa_nil)))))
        (pss_cons (ps_set (i := 8) sc_told.nd rfl (Or.inl rfl) pe_dnewKK)
        (pss_cons (ps_for (passes_of rfl) rfl (pi_list (pe_call G_slots_of (hr.mono (by decide)) rfl (glo_slots_of T) kp_slots_of b_slots_of .nil pass0 (pa_cons (pv 7) pa_nil))) (pg_name (i := 9) sc_told.nd rfl (Or.inl rfl)) pss_never)
        (pss_one (ps_ret (pv 8))))))), ?_⟩
    walk_at "wks"
    refine ⟨as, ds, hdA, hd, dl, ?_⟩
    rcases hk with ⟨cA, xs, cs, rfl, hcA, hc, cl, ⟨hu, k⟩ | ⟨hn, k⟩⟩ | ⟨bad, k⟩
    · refine .inl ⟨cA, xs, cs, rfl, hcA, hc, cl, .inl ⟨hu, fun p rA ts H1 told nt lt => ?_⟩⟩
      have rl := told.rl
      have rs := told.rs
      have tp := told.top
      have s1 := told.base
      have hc1 := hc.same s1
      have pos := walked_pos (cs := cs) hc.up (ds := ds) (top := top) (b := b)
      generalize walked cs ds top b = z at *
      walk_at "wks"
      refine ⟨⟨_, .of rl⟩, fun D hD => lcK_list (K := K) (a := rA) (xs := ts.map fun t => V.ref t.1) hD (fun i H' => ∃ zs : List Addr, H' D = some (.lst (zs.map V.ref)) ∧ zs.length = i ∧ (∀ x ∈ zs, AimAt K H' x) ∧ Same H1 H') (fun H' f s h => ⟨[], h, rfl, (fun x hx => nomatch hx), s⟩) (fun i H' _ ⟨_, _, _, _, q⟩ => .of (q _ _ rl)) ?_ ?_⟩
      · rintro i y H2 hy ⟨zs, h2, l2, a2, s2⟩
        obtain ⟨t, r, rfl, hr, hrow⟩ := rs.ref hy
        have hil : i < ts.length := by
          have := (List.getElem?_eq_some_iff.mp hy).1
          rw [List.length_map] at this
          exact this
        refine ⟨rfl, ?_⟩
        walk_at "wks"
        intro px pdx H3 f3 s3 e3
        refine ⟨px, pdx, t.1, t.2, xs, cs, r.1, r.2.1, r.2.2, rfl, e3, s3 _ _ (s2 _ _ hrow.1), s3 _ _ (s2 _ _ hrow.2), (hc1.same s2).same s3, pos.rows r hr, fun H4 m4 aim => ⟨rfl, ?_⟩⟩
        have S : Same H2 H4 := s3.but m4 f3
        have h4 := S _ _ h2
        refine ⟨_, h4, L2.szlt (by rw [List.length_map]; omega), fun H5 m5 h5 => ⟨zs ++ [px], ?_, ?_, ?_, (s2.trans S).but m5 hD⟩⟩
        · rw [List.map_append]
          exact h5
        · rw [List.length_append, l2]
          rfl
        · intro x hx
          rcases List.mem_append.mp hx with hx | hx
          · exact ((a2 x hx).same S).put m5 h4
          · rw [List.mem_singleton.mp hx]
            exact aim.put m5 h4
      rintro H2 ⟨zs, h2, l2, a2, s2⟩
      walk_at "wks"
      rename_i lk H3 f3 s3 h3
      refine ⟨fun x hx => (a2 x hx).same s3, fun q H4 s4 h4 => ?_⟩
      refine ⟨q, rfl, ⟨_, .of h4⟩, for_list (K := K) (a := q) (xs := []) (fun i σ' H' => σ' = [some (.ref cA), some (.ref dA), some (.int top), some (.int b), some (.ref rA), some (.int (z.clock top b)), some (.int b), some (.ref D), some (.ref lk), none, none, none] ∧ H' = H4) ⟨rfl, rfl⟩ (fun i σ' H' _ ⟨_, e⟩ => by rw [e]; exact .of h4) (fun i y σ' H' hi _ => by cases i <;> cases hi) ?_⟩
      rintro σ' H' ⟨rfl, rfl⟩
      walk_at "wks"
      exact k lk _ (((s1.trans s2).trans s3).trans s4)
    · exact .inl ⟨cA, xs, cs, rfl, hcA, hc, cl, .inr ⟨hn, k⟩⟩
    · exact .inr ⟨bad, k⟩
/-! ### the law's small helpers -/
def spCell (K : PySem.W.Frag) : Sp := fun vs H Q _ => ∃ (a : Addr) (k : Int), vs = [.ref a, .int k] ∧ (∃ ns : List Int, SqL K H a (ns.map V.int)) ∧ 0 ≤ k ∧ ∀ r : Int, Q (.int r) H
theorem ok_l_cell_at (T : Txt K mg) : ∃ fd, FnOk P w K mg base CX0 1 (He.fAd K ("_law_cell_at", none)) fd ["_law_script", "_law_k"] (spCell K) ∧ FunD K "_law_cell_at" "_law_cell_at" (defArgs s_l_cell_at) (defBody s_l_cell_at) (defScope s_l_cell_at) [] [] (He.fAd K ("_law_cell_at", none)) fd := by
  obtain ⟨fd, F⟩ := T.c.def_ 38 (d := d_l_cell_at) rfl
  refine ⟨fd, F.ok sc_l_cell_at (by walk_at "g94len") (fun cdv A outer st H vs Q E hr h => ?_), F⟩
  · obtain ⟨a, i, rfl, ⟨ns, hS⟩, i0, k⟩ := h
    refine ⟨_, PSs.nox (pss_cons (ps_if (pt_cmpR op_lt (pv 1) (pe_callB call_len_seq (by rfl) (free_len T) (by decide +kernel) (pa_cons (pv 0) pa_nil)) (nomark _)) (pss_one (ps_ret (pe_ix ix_list (pv 0) (pv 1) (fun _ _ => rfl)))) pss_nil)
        (pss_one (ps_ret pe_int))), ?_⟩
    walk_at "rds"
    refine ⟨_, _, rfl, .inl hS, ?_⟩
    walk_at "rds"
    walk_at "ri" <;> intro c1
    · obtain ⟨v, hv, hv2⟩ := atI_lt i0 c1
      obtain ⟨z, rfl, _, _⟩ := int_at hv2
      walk_at "rds"
      exact ⟨_, _, _, _, rfl, rfl, hS, hv, k _⟩
    · walk_at "rds"
      exact k _

def spWhole : Sp := fun vs H Q _ => ∃ n : Int, vs = [.int n] ∧ Q (.bl true) H
theorem ok_l_whole (T : Txt K mg) : ∃ fd, FnOk P w K mg base CX0 1 (He.fAd K ("_law_whole", none)) fd ["_law_found"] spWhole ∧ FunD K "_law_whole" "_law_whole" (defArgs s_l_whole) (defBody s_l_whole) (defScope s_l_whole) [] [] (He.fAd K ("_law_whole", none)) fd := by
  obtain ⟨fd, F⟩ := T.c.def_ 39 (d := d_l_whole) rfl
  refine ⟨fd, F.ok sc_l_whole (by walk_at "g94len") (fun cdv A outer st H vs Q E hr h => ?_), F⟩
  · obtain ⟨n, rfl, k⟩ := h
    refine ⟨_, PSs.nox (pss_one (ps_ret (pe_and (pe_callB call_isi (by rfl) (free_isinstance T) (by decide +kernel) (pa_cons (pv 0) (pa_cons (pe_bltn (v := .ty "int") (by rfl) (free_int T) (by decide +kernel) rfl) pa_nil))) (pe_one (pe_not (pe_callB call_isi (by rfl) (free_isinstance T) (by decide +kernel) (pa_cons (pv 0) (pa_cons (pe_bltn (v := .ty "bool") (by rfl) (free_bool T) (by decide +kernel) rfl) pa_nil)))))))), ?_⟩
    walk_at "rds"
    exact k

def spMixed : Sp := fun vs H Q _ => ∃ c p : Int, vs = [.int c, .int p] ∧ 0 ≤ p ∧ p ≤ 1000 ∧ ∀ r : Int, 0 ≤ r → r < 2147483629 → Q (.int r) H
theorem ok_l_mixed (T : Txt K mg) : ∃ fd, FnOk P w K mg base CX0 1 (He.fAd K ("_law_mixed", none)) fd ["_law_cell", "_law_k"] spMixed ∧ FunD K "_law_mixed" "_law_mixed" (defArgs s_l_mixed) (defBody s_l_mixed) (defScope s_l_mixed) [] [] (He.fAd K ("_law_mixed", none)) fd := by
  obtain ⟨fd, F⟩ := T.c.def_ 40 (d := d_l_mixed) rfl
  refine ⟨fd, F.ok sc_l_mixed (by walk_at "g94len") (fun cdv A outer st H vs Q E hr h => ?_), F⟩
  · obtain ⟨c, p, rfl, p0, p1, k⟩ := h
    refine ⟨_, PSs.nox (pss_one (ps_ret (pe_op op_mod (pe_op op_mul (pe_op op_add (pe_op op_mod (pe_op op_fdiv (pv 0) pe_int) (pe_powC (v := 1000000000000000000000000000000) (by rfl) (by decide +kernel))) pe_int) (pe_op op_add pe_int (pe_op op_mul (pe_op op_mul pe_int (pv 1)) (pv 1)))) pe_int))), ?_⟩
    have hp2 : 0 ≤ 7919 * p * p ∧ 7919 * p * p ≤ 7919000000 := by
      have h1 : 0 ≤ 7919 * p := by omega
      have h2 := Int.mul_nonneg h1 p0
      have h3 := Int.mul_le_mul (show 7919 * p ≤ 7919000 by omega) p1 p0 (by decide)
      omega
    walk_at "rds"
    exact k _ (Int.emod_nonneg _ (by decide)) (Int.emod_lt_of_pos _ (by decide))
def spTimeD : Sp := fun vs H Q _ => ∃ m : Int, vs = [.int m] ∧ 0 ≤ m ∧ m ≤ 2147483648 ∧ ∀ r : Int, 0 ≤ r → r ≤ 1000000000 → Q (.int r) H
theorem ok_l_time (T : Txt K mg) : ∃ fd, FnOk P w K mg base CX0 1 (He.fAd K ("_law_time", none)) fd ["_law_mixed_here"] spTimeD ∧ FunD K "_law_time" "_law_time" (defArgs s_l_time) (defBody s_l_time) (defScope s_l_time) [] [] (He.fAd K ("_law_time", none)) fd := by
  obtain ⟨fd, F⟩ := T.c.def_ 41 (d := d_l_time) rfl
  refine ⟨fd, F.ok sc_l_time (by walk_at "g94len") (fun cdv A outer st H vs Q E hr h => ?_), F⟩
  · obtain ⟨m, rfl, m0, m1, k⟩ := h
    refine ⟨_, PSs.nox (pss_cons (ps_set (i := 1) sc_l_time.nd rfl (Or.inl rfl) (pe_op op_mod (pe_op op_mul (pv 0) pe_int) pe_int))
        (pss_cons (ps_if (pt_cmpR op_eq (pe_op op_mod (pv 1) pe_int) pe_int (nomark _)) (pss_one (ps_ret pe_int)) pss_nil)
        (pss_cons (ps_if (pt_cmpR op_eq (pe_op op_mod (pv 1) pe_int) pe_int (nomark _)) (pss_one (ps_ret (pe_op op_mul pe_int (pe_op op_mod (pe_op op_fdiv (pv 1) pe_int) pe_int)))) pss_nil)
        (pss_cons (ps_if (pt_cmpR op_eq (pe_op op_mod (pv 1) pe_int) pe_int (nomark _)) (pss_one (ps_ret (pe_op op_mod (pe_op op_fdiv (pv 1) pe_int) pe_int))) pss_nil)
        (pss_one (ps_ret (pe_op op_mod (pe_op op_fdiv (pv 1) pe_int) (pe_op op_add (pe_powC (v := 1000000000) (by rfl) (by decide +kernel)) pe_int)))))))), ?_⟩
    refine ⟨_, rfl, _, _, rfl, rfl, .inr ⟨by decide, by decide⟩, _, _, rfl, rfl, (by show (0 : Int) < 4000000007; decide), ?_⟩
    have hn : 0 ≤ m * 40692 % 4000000007 := Int.emod_nonneg _ (by decide)
    have hn2 : m * 40692 % 4000000007 < 4000000007 := Int.emod_lt_of_pos _ (by decide)
    walk_at "nf"
    generalize m * 40692 % 4000000007 = n at *
    refine ⟨_, rfl, _, _, rfl, rfl, (by show (0 : Int) < 4; decide), rfl, _, rfl, ?_⟩
    refine iteV (fun c1 => ?_) (fun c1 => ?_)
    · exact k _ (by omega) (by omega)
    refine ⟨_, rfl, _, _, rfl, rfl, (by show (0 : Int) < 4; decide), rfl, _, rfl, ?_⟩
    refine iteV (fun c2 => ?_) (fun c2 => ?_)
    · refine ⟨_, rfl, _, _, rfl, rfl, ⟨by omega, by omega⟩, ?_⟩
      walk_at "rds"
      exact k _ (by omega) (by omega)
    refine ⟨_, rfl, _, _, rfl, rfl, (by show (0 : Int) < 4; decide), rfl, _, rfl, ?_⟩
    refine iteV (fun c3 => ?_) (fun c3 => ?_)
    · refine ⟨_, rfl, _, _, rfl, rfl, ⟨by omega, by omega⟩, ?_⟩
      walk_at "rds"
      exact k _ (by omega) (by omega)
    refine ⟨_, rfl, _, _, rfl, rfl, ⟨by omega, by omega⟩, ?_⟩
    walk_at "rds"
    exact k _ (by omega) (by omega)
def RisingN : Int → List Int → Prop
  | _, [] => True
  | n, c :: r => n < c ∧ RisingN c r
theorem RisingN.snoc : ∀ {n : Int} {ms : List Int} {m : Int}, RisingN n ms → (ms.getLast?.getD n) < m → RisingN n (ms ++ [m])
  | n, [], m, _, h => ⟨h, trivial⟩
  | n, c :: r, m, ⟨h1, h2⟩, h => ⟨h1, RisingN.snoc h2 (by
      rw [List.getLast?_cons] at h
      exact h)⟩
def spNumbers : Sp := fun vs H Q _ => ∃ m : Int, vs = [.int m] ∧ 0 ≤ m ∧ ∀ (p : Addr) (ms : List Int) H', Same H H' → Fr H p → H' p = some (.lst (ms.map V.int)) → RisingN 0 ms → ms.length ≤ 9 → (∀ m ∈ ms, m ≤ 1000) → ms ≠ [] → Q (.ref p) H'
theorem ok_l_numbers (T : Txt K mg) : ∃ fd, FnOk P w K mg base CX0 2 (He.fAd K ("_law_numbers", none)) fd ["_law_mixed_here"] spNumbers ∧ FunD K "_law_numbers" "_law_numbers" (defArgs s_l_numbers) (defBody s_l_numbers) (defScope s_l_numbers) [] [] (He.fAd K ("_law_numbers", none)) fd := by
  obtain ⟨fd, F⟩ := T.c.def_ 42 (d := d_l_numbers) rfl
  refine ⟨fd, F.ok sc_l_numbers (by walk_at "g94len") (fun cdv A outer st H vs Q E hr h => ?_), F⟩
  · obtain ⟨m, rfl, m0, k⟩ := h
    refine ⟨_, PSs.nox (pss_cons (ps_set (i := 1) sc_l_numbers.nd rfl (Or.inl rfl) (pe_lstK pa_nil))
        (pss_cons (ps_set (i := 2) sc_l_numbers.nd rfl (Or.inl rfl) pe_int)
        (pss_cons (ps_for PassesOwn.never rfl (pi_range1 rfl (free_range T) (pa_cons (pe_op op_add pe_int (pe_op op_mod (pv 0) pe_int)) pa_nil)) (pg_name (i := 3) sc_l_numbers.nd rfl (Or.inl rfl)) (pss_cons (ps_set (i := 2) sc_l_numbers.nd rfl (Or.inl rfl) (pe_op op_add (pe_op op_add (pv 2) pe_int) (pe_op op_mod (pe_op op_fdivW (pv 0) (pe_op op_add (pv 3) pe_int)) pe_int)))
        (pss_one (ps_expr (pe_bm PySem.F.plainAttrs_list PySem.F.slot_list_append PySem.F.type_list_append mt_appendK (pv 1) (pa_cons (pv 2) pa_nil))))))
        (pss_one (ps_ret (pv 1)))))), ?_⟩
    walk_at "wks"
    rename_i pA H1 f1 s1 h1
    refine for_range (lo := 0) (n := (1 + m % 9).toNat) (fun i σ' H' => ∃ (v : Option V) (ms : List Int), σ' = [some (.int m), some (.ref pA), some (.int (ms.getLast?.getD 0)), v] ∧ Same H H' ∧ H' pA = some (.lst (ms.map V.int)) ∧ RisingN 0 ms ∧ ms.length = i ∧ (∀ x ∈ ms, x ≤ 3 * i)) ⟨_, [], rfl, s1, h1, trivial, rfl, by simp⟩ ?_ ?_
    · rintro i σ' H2 hi ⟨v, ms, rfl, s2, h2, r2, l2, b2⟩
      walk_at "wks"
      rename_i H3 m3 h3
      have hq : 0 ≤ m / (0 + (i : Int) + 9) % 3 ∧ m / (0 + (i : Int) + 9) % 3 < 3 := ⟨Int.emod_nonneg _ (by decide), Int.emod_lt_of_pos _ (by decide)⟩
      have h3 : H3 pA = some (.lst (ms.map V.int ++ [V.int (ms.getLast?.getD 0 + 1 + m / (0 + (i : Int) + 9) % 3)])) := h3
      have lst : ms.getLast?.getD 0 ≤ 3 * (i : Int) := by
        cases hl : ms.getLast? with
        | none => show (0 : Int) ≤ _; omega
        | some z => exact b2 z (List.mem_of_getLast? hl)
      have rs : RisingN 0 (ms ++ [ms.getLast?.getD 0 + 1 + m / (0 + (i : Int) + 9) % 3]) := r2.snoc (by omega)
      refine ⟨some (V.int (0 + (i : Int))), ms ++ [ms.getLast?.getD 0 + 1 + m / (0 + (i : Int) + 9) % 3], ?_, s2.but m3 f1, ?_, rs, (by rw [List.length_append, l2]; rfl), ?_⟩
      · rw [List.getLast?_append]
        rfl
      · rw [List.map_append]
        exact h3
      · intro x hx
        rcases List.mem_append.mp hx with hx | hx
        · have := b2 x hx
          omega
        · have e := List.mem_singleton.mp hx
          omega
    · rintro σ' H2 ⟨v, ms, rfl, s2, h2, r2, l2, b2⟩
      have hm : 0 ≤ m % 9 ∧ m % 9 < 9 := ⟨Int.emod_nonneg _ (by decide), Int.emod_lt_of_pos _ (by decide)⟩
      walk_at "wks"
      refine k pA ms _ s2 f1 h2 r2 (by omega) (fun x hx => ?_) ?_
      · have := b2 x hx
        omega
      · intro e
        rw [e] at l2
        have l2 : 0 = (1 + m % 9).toNat := l2
        omega
theorem script_at {ns : List Int} {k : Int} (h0 : 0 ≤ k) (h1 : k < ns.length) : ∃ z : Int, atI (ns.map V.int) k = some (V.int z) := by
  obtain ⟨v, hv, hv2⟩ := atI_lt (xs := ns.map V.int) h0 (by rw [List.length_map]; exact h1)
  obtain ⟨z, rfl, _, _⟩ := int_at hv2
  exact ⟨z, hv⟩
theorem word5 {r : Int} (h0 : 0 ≤ r) (h1 : r < 5) : ∃ w : Str, atI [V.str "go", V.str "back", V.str "goto", V.str "stop", V.str "on"] r = some (.str w) ∧ (w = "stop" ∨ w = "on" ∨ w = "go" ∨ w = "back" ∨ w = "goto") := by
  rcases (by omega : r = 0 ∨ r = 1 ∨ r = 2 ∨ r = 3 ∨ r = 4) with rfl | rfl | rfl | rfl | rfl
  · exact ⟨_, rfl, .inr (.inr (.inl rfl))⟩
  · exact ⟨_, rfl, .inr (.inr (.inr (.inl rfl)))⟩
  · exact ⟨_, rfl, .inr (.inr (.inr (.inr rfl)))⟩
  · exact ⟨_, rfl, .inl rfl⟩
  · exact ⟨_, rfl, .inr (.inl rfl)⟩
theorem UpD.snoc : ∀ {n : Int} {ds : List De} {d : De}, UpD n ds → ((ds.getLast?.map (·.1)).getD n) ≤ d.1 → UpD n (ds ++ [d])
  | n, [], m, _, h => ⟨h, trivial⟩
  | n, c :: r, m, ⟨h1, h2⟩, h => ⟨h1, UpD.snoc h2 (by
      rw [List.getLast?_cons] at h
      cases hl : r.getLast? with
      | none =>
        rw [hl] at h
        exact h
      | some z =>
        rw [hl] at h
        exact h)⟩
def spDeeds (K : PySem.W.Frag) : Sp := fun vs H Q _ => ∃ (a : Addr) (ns : List Int), vs = [.ref a] ∧ SqL K H a (ns.map V.int) ∧ ns.length ≤ 63 ∧ ∀ (p : Addr) (as : List Addr) (ds : List De) H', Same H H' → Fr H p → H' p = some (.lst (as.map V.ref)) → DeedsAt H' as ds → UpD 0 ds → 2 ≤ ds.length → ds.length ≤ 82 → Q (.ref p) H'
theorem ok_l_deeds (T : Txt K mg) : ∃ fd, FnOk P w K mg base CX0 2 (He.fAd K ("_law_deeds", none)) fd ["_law_script"] (spDeeds K) ∧ FunD K "_law_deeds" "_law_deeds" (defArgs s_l_deeds) (defBody s_l_deeds) (defScope s_l_deeds) [] [] (He.fAd K ("_law_deeds", none)) fd := by
  obtain ⟨fd, F⟩ := T.c.def_ 43 (d := d_l_deeds) rfl
  obtain ⟨fd_l_mixed, G_l_mixed, F_l_mixed⟩ := ok_l_mixed (P := P) (w := w) (base := base) T
  have kp_l_mixed := F_l_mixed.kp
  have b_l_mixed : Binds K fd_l_mixed ["_law_cell", "_law_k"] [] := FunD.bindsN F_l_mixed (fun _ _ _ _ _ _ us hl => match us, hl with | [_, _], _ => rfl)
  obtain ⟨fd_l_time, G_l_time, F_l_time⟩ := ok_l_time (P := P) (w := w) (base := base) T
  have kp_l_time := F_l_time.kp
  have b_l_time : Binds K fd_l_time ["_law_mixed_here"] [] := FunD.bindsN F_l_time (fun _ _ _ _ _ _ us hl => match us, hl with | [_], _ => rfl)
  refine ⟨fd, F.ok sc_l_deeds (by walk_at "g94len") (fun cdv A outer st H vs Q E hr h => ?_), F⟩
  · obtain ⟨a, ns, rfl, hS, hn, k⟩ := h
    refine ⟨_, PSs.nox (pss_cons (ps_set (i := 1) sc_l_deeds.nd rfl (Or.inl rfl) (pe_lstK pa_nil))
        (pss_cons (ps_set (i := 2) sc_l_deeds.nd rfl (Or.inl rfl) pe_int)
        (pss_cons (ps_for PassesOwn.never rfl (pi_range2 rfl (free_range T) (pa_cons pe_int (pa_cons (pe_callB (call_min2 rfl) (by rfl) (free_min T) (by decide +kernel) (pa_cons (pe_callB call_len_seq (by rfl) (free_len T) (by decide +kernel) (pa_cons (pv 0) pa_nil)) (pa_cons pe_int pa_nil))) pa_nil))) (pg_name (i := 3) sc_l_deeds.nd rfl (Or.inl rfl)) (pss_cons (ps_set (i := 4) sc_l_deeds.nd rfl (Or.inl rfl) (pe_call G_l_mixed (hr.mono (by decide)) rfl (glo__law_mixed T) kp_l_mixed b_l_mixed .nil pass0 (pa_cons (pe_ix ix_list (pv 0) (pv 3) (fun _ _ => rfl)) (pa_cons (pv 3) pa_nil))))
        (pss_cons (ps_set (i := 2) sc_l_deeds.nd rfl (Or.inl rfl) (pe_op op_add (pv 2) (pe_call G_l_time (hr.mono (by decide)) rfl (glo__law_time T) kp_l_time b_l_time .nil pass0 (pa_cons (pv 4) pa_nil))))
        (pss_cons (ps_set (i := 5) sc_l_deeds.nd rfl (Or.inl rfl) (pe_ix ix_list (pe_lstK (pa_cons pe_str (pa_cons pe_str (pa_cons pe_str (pa_cons pe_str (pa_cons pe_str pa_nil)))))) (pe_op op_mod (pe_ix ix_list (pv 0) (pv 3) (fun _ _ => rfl)) pe_int) (fun _ _ => rfl)))
        (pss_cons (ps_set (i := 6) sc_l_deeds.nd rfl (Or.inl rfl) (pe_tupK (pa_cons (pv 2) (pa_cons (pv 5) pa_nil))))
        (C8.pss_cut (ps_if (pt_cmpR op_eq (pv 5) pe_str (nomark _)) (pss_one (ps_set (i := 6) sc_l_deeds.nd rfl (Or.inl rfl) (pe_tupK (pa_cons (pv 2) (pa_cons (pv 5) (pa_cons (pe_op op_mod (pv 4) pe_int) pa_nil)))))) pss_nil)
        (pss_one (ps_expr (pe_bm PySem.F.plainAttrs_list PySem.F.slot_list_append PySem.F.type_list_append mt_appendK (pv 1) (pa_cons (pv 6) pa_nil))))))))))
        (pss_cons (ps_if (pt_cmpR op_lt (pe_callB call_len_seq (by rfl) (free_len T) (by decide +kernel) (pa_cons (pv 1) pa_nil)) pe_int (nomark _)) (pss_one (ps_ret (pe_lstK (pa_cons (pe_tupK (pa_cons pe_int (pa_cons pe_str pa_nil))) (pa_cons (pe_tupK (pa_cons pe_int (pa_cons pe_str pa_nil))) (pa_cons (pe_tupK (pa_cons pe_int (pa_cons pe_str pa_nil))) pa_nil)))))) pss_nil)
        (pss_one (ps_ret (pv 1))))))), ?_⟩
    walk_at "wks"
    rename_i pA H1 f1 s1 h1
    have hS1 := s1.seq hS
    refine ⟨_, _, rfl, .inl hS1, ?_⟩
    rw [List.length_map]
    walk_at "rds"
    have hmn : (if (84 : Int) < (ns.length : Int) then (84 : Int) else (ns.length : Int)) = ns.length := if_neg (by omega)
    rw [hmn]
    walk_at "rds"
    refine for_range (lo := 3) (n := ((ns.length : Int) - 3).toNat) (fun i σ' H' => ∃ (v1 v2 v3 v4 : Option V) (as : List Addr) (ds : List De), σ' = [some (.ref a), some (.ref pA), some (.int ((ds.getLast?.map (·.1)).getD 0)), v1, v2, v3, v4] ∧ Same H H' ∧ H' pA = some (.lst (as.map V.ref)) ∧ DeedsAt H' as ds ∧ UpD 0 ds ∧ ds.length = i) ⟨_, _, _, _, [], [], rfl, s1, h1, .nil, trivial, rfl⟩ ?_ ?_
    · rintro i σ' H2 hi ⟨v1, v2, v3, v4, as, ds, rfl, s2, h2, d2, u2, l2⟩
      have hS2 := s2.seq hS
      obtain ⟨z, hz⟩ := script_at (ns := ns) (k := 3 + (i : Int)) (by omega) (by omega)
      refine ⟨_, rfl, _, rfl, a, _, _, _, rfl, rfl, hS2, hz, _, rfl, z, _, rfl, by omega, by omega, fun m m0 m1 => ?_⟩
      refine ⟨_, rfl, _, rfl, m, rfl, m0, by omega, fun t t0 t1 => ?_⟩
      refine ⟨_, _, rfl, rfl, ?_⟩
      have ut : (ds.getLast?.map (·.1)).getD 0 ≤ (ds.getLast?.map (·.1)).getD 0 + t := by omega
      walk_at "nf"
      generalize hT : (ds.getLast?.map (·.1)).getD 0 + t = tk at *
      walk_at "wks"
      rename_i p1 G1 g1 r1 e1
      have hS3 := r1.seq hS2
      refine ⟨a, _, _, _, rfl, rfl, hS3, hz, _, _, rfl, rfl, (by show (0 : Int) < 5; decide), ?_⟩
      walk_at "nf"
      obtain ⟨wd, hw, hwd⟩ := word5 (r := z % 5) (Int.emod_nonneg _ (by decide)) (Int.emod_lt_of_pos _ (by decide))
      refine ⟨p1, _, _, _, rfl, rfl, .of e1, hw, ?_⟩
      refine ⟨_, rfl, _, rfl, by walk_at "sd", fun p2 G2 g2 r2 e2 => ?_⟩
      refine ⟨fun σ' H' => ∃ (d : Dd) (dA : Addr), σ' = [some (.ref a), some (.ref pA), some (.int tk), some (.int (3 + (i : Int))), some (.int m), some (.str wd), some (.ref dA)] ∧ Same G1 H' ∧ H' dA = some (.tup (d.v tk)), ?_, ?_⟩
      · rcases hwd with rfl | rfl | rfl | rfl | rfl
        · refine ⟨_, rfl, rfl, _, rfl, iteF ?_⟩
          exact ⟨.stop, p2, rfl, r2, e2⟩
        · refine ⟨_, rfl, rfl, _, rfl, iteF ?_⟩
          exact ⟨.on, p2, rfl, r2, e2⟩
        · refine ⟨_, rfl, rfl, _, rfl, iteF ?_⟩
          exact ⟨.go, p2, rfl, r2, e2⟩
        · refine ⟨_, rfl, rfl, _, rfl, iteF ?_⟩
          exact ⟨.back, p2, rfl, r2, e2⟩
        · refine ⟨_, rfl, rfl, _, rfl, iteT ?_⟩
          refine ⟨_, rfl, _, rfl, _, rfl, _, _, rfl, rfl, (by show (0 : Int) < 21; decide), by walk_at "sd", fun p3 G3 g3 r3 e3 => ?_⟩
          exact ⟨.goto (m % 21), p3, rfl, r2.trans r3, e3⟩
      · rintro σ' H3 ⟨d, dA, rfl, s3, h3⟩
        have s23 := r1.trans s3
        have h23 := s23 _ _ h2
        have la := d2.len
        walk_at "wks"
        rename_i H4 m4 h4
        refine ⟨some (V.int (3 + (i : Int))), some (V.int m), some (V.str wd), some (V.ref dA), as ++ [dA], ds ++ [(tk, d)], ?_, ?_, ?_, ?_, ?_, ?_⟩
        · rw [List.getLast?_append]
          rfl
        · exact (s2.trans s23).but m4 f1
        · rw [List.map_append]
          exact h4
        · exact Paired.snoc (Paired.mapP (d2.same s23) fun _ _ c => m4 _ _ (ne_of c h23 (by intro z; cases z)) c) (m4 _ _ (ne_of h3 h23 (by intro z; cases z)) h3)
        · exact u2.snoc ut
        · rw [List.length_append, l2]
          rfl
    · rintro σ' H2 ⟨v1, v2, v3, v4, as, ds, rfl, s2, h2, d2, u2, l2⟩
      have la := d2.len
      walk_at "wks"
      refine iteD (fun c1 => ?_) (fun c1 => ?_)
      · walk_at "wks"
        rename_i t1 G1 g1 r1 e1 t2 G2 g2 r2 e2 t3 G3 g3 r3 e3 pB G4 g4 r4 e4
        refine k pB [t1, t2, t3] [(3, .go), (7, .back), (7, .go)] _ (s2.trans (r1.trans (r2.trans (r3.trans r4)))) ?_ e4 (.cons (r4 _ _ (r3 _ _ (r2 _ _ e1))) (.cons (r4 _ _ (r3 _ _ e2)) (.cons (r4 _ _ e3) .nil))) ⟨by decide, by decide, by decide, trivial⟩ (by decide) (by decide)
        exact g4.back (s2.trans (r1.trans (r2.trans r3)))
      · have c1 : ¬ ((as.map V.ref).length : Int) < 2 := c1
        rw [List.length_map, la] at c1
        walk_at "wks"
        exact k pA as ds _ s2 f1 h2 d2 u2 (by omega) (by omega)
/-! ### data of lists and tuples, their forms -/
structure Sd (n : Nat) (d : PyData) : Prop where
  can : d.canLay0 = true
  dep : d.depth ≤ n
structure SdAll (n : Nat) (ds : List PyData) : Prop where
  can : PyData.canLayAll0 ds = true
  dep : PyData.depthAll ds ≤ n
theorem Sd.sh {n : Nat} {d : PyData} (h : Sd n d) (hn : n ≤ 64) : SeqAt.shaped d = true := by
  unfold SeqAt.shaped
  rw [h.can, decide_eq_true (Nat.le_trans h.dep hn)]
  rfl
theorem Sd.int {n : Nat} {i : Int} : Sd n (.int i) := ⟨by unfold PyData.canLay0; rfl, by unfold PyData.depth; exact Nat.zero_le _⟩
theorem Sd.bl {n : Nat} {b : Bool} : Sd n (.bool b) := ⟨by unfold PyData.canLay0; rfl, by unfold PyData.depth; exact Nat.zero_le _⟩
theorem Sd.non {n : Nat} : Sd n .none := ⟨by unfold PyData.canLay0; rfl, by unfold PyData.depth; exact Nat.zero_le _⟩
theorem Sd.str {n : Nat} {x : Str} (h : PyData.strOk x = true) : Sd n (.str x) := ⟨by unfold PyData.canLay0; exact h, by unfold PyData.depth; exact Nat.zero_le _⟩
theorem SdAll.nil {n : Nat} : SdAll n [] := ⟨by unfold PyData.canLayAll0; rfl, by unfold PyData.depthAll; exact Nat.zero_le _⟩
theorem SdAll.cons {n : Nat} {d : PyData} {ds : List PyData} (h : Sd n d) (k : SdAll n ds) : SdAll n (d :: ds) :=
  ⟨by unfold PyData.canLayAll0; rw [h.can, k.can]; rfl, by unfold PyData.depthAll; exact Nat.max_le.mpr ⟨h.dep, k.dep⟩⟩
theorem SdAll.app {n : Nat} : ∀ {ds es : List PyData}, SdAll n ds → SdAll n es → SdAll n (ds ++ es)
  | [], _, _, k => k
  | d :: ds, es, h, k => by
    have hc := h.can
    have hd := h.dep
    unfold PyData.canLayAll0 at hc
    unfold PyData.depthAll at hd
    have hc := Bool.and_eq_true_iff.mp hc
    have hd := Nat.max_le.mp hd
    exact SdAll.cons ⟨hc.1, hd.1⟩ (SdAll.app ⟨hc.2, hd.2⟩ k)
theorem Sd.list {n : Nat} {ds : List PyData} (h : SdAll n ds) : Sd (n + 1) (.list ds) := ⟨by unfold PyData.canLay0; exact h.can, by unfold PyData.depth; exact Nat.succ_le_succ h.dep⟩
theorem Sd.tup {n : Nat} {ds : List PyData} (h : SdAll n ds) : Sd (n + 1) (.tuple ds) := ⟨by unfold PyData.canLay0; exact h.can, by unfold PyData.depth; exact Nat.succ_le_succ h.dep⟩
theorem SdAll.ints {n : Nat} : ∀ ns : List Int, SdAll n (ns.map PyData.int)
  | [] => SdAll.nil
  | _ :: r => SdAll.cons Sd.int (SdAll.ints r)
theorem DpAll.ints {K : PySem.W.Frag} {H : Hp} : ∀ ns : List Int, DpAll K H (ns.map V.int) (ns.map PyData.int)
  | [] => .nil
  | i :: r => .cons (.int i) (DpAll.ints r)
theorem Dp.ints {K : PySem.W.Frag} {H : Hp} {a : Addr} {ns : List Int} (h : H a = some (.lst (ns.map V.int))) : Dp K H (.ref a) (.list (ns.map PyData.int)) := .lst (.of h) (DpAll.ints ns)
theorem DpAll.len {K : PySem.W.Frag} {H : Hp} : ∀ {vs : List V} {ds : List PyData}, DpAll K H vs ds → ds.length = vs.length
  | _, _, .nil => rfl
  | _, _, .cons _ h => congrArg Nat.succ (DpAll.len h)
theorem eqvAll_ints : ∀ ns ms : List Int, PyData.eqvAll (ns.map PyData.int) (ms.map PyData.int) = decide (ns = ms)
  | [], [] => by
    show PyData.eqvAll [] [] = _
    unfold PyData.eqvAll
    rfl
  | [], m :: ms => by
    show PyData.eqvAll [] (_ :: _) = _
    unfold PyData.eqvAll
    rfl
  | n :: ns, [] => by
    show PyData.eqvAll (_ :: _) [] = _
    unfold PyData.eqvAll
    rfl
  | n :: ns, m :: ms => by
    show PyData.eqvAll (PyData.int n :: ns.map PyData.int) (PyData.int m :: ms.map PyData.int) = _
    unfold PyData.eqvAll
    rw [eqvAll_ints ns ms]
    have e : PyData.eqv (.int n) (.int m) = decide (n = m) := by
      unfold PyData.eqv
      exact Bool.eq_iff_iff.mpr (by simp)
    rw [e]
    exact Bool.eq_iff_iff.mpr (by simp)
theorem eqv_ints {ns ms : List Int} : PyData.eqv (.list (ns.map PyData.int)) (.list (ms.map PyData.int)) = decide (ns = ms) := by
  unfold PyData.eqv
  exact eqvAll_ints ns ms
theorem eqv_nil {ds : List PyData} : PyData.eqv (.list ds) (.list []) = ds.isEmpty := by
  unfold PyData.eqv
  cases ds with
  | nil =>
    unfold PyData.eqvAll
    rfl
  | cons d r =>
    unfold PyData.eqvAll
    rfl

/-! ### deeds as data -/
def Dd.dat (t : Int) : Dd → List PyData
  | .go => [.int t, .str "go"]
  | .back => [.int t, .str "back"]
  | .goto k => [.int t, .str "goto", .int k]
  | .stop => [.int t, .str "stop"]
  | .on => [.int t, .str "on"]
def deDat (ds : List De) : List PyData := ds.map fun d => .tuple (d.2.dat d.1)
theorem DeedsAt.dp {K : PySem.W.Frag} {H : Hp} {as : List Addr} {ds : List De} (h : DeedsAt H as ds) : DpAll K H (as.map V.ref) (deDat ds) := by
  unfold DeedsAt at h
  induction h with
  | nil => exact .nil
  | @cons a d as ds p _ ih =>
    refine .cons (.tup (.of p) ?_) ih
    obtain ⟨t, d⟩ := d
    cases d with
    | go => exact .cons (.int _) (.cons (.str _) .nil)
    | back => exact .cons (.int _) (.cons (.str _) .nil)
    | goto j => exact .cons (.int _) (.cons (.str _) (.cons (.int _) .nil))
    | stop => exact .cons (.int _) (.cons (.str _) .nil)
    | on => exact .cons (.int _) (.cons (.str _) .nil)
theorem SdAll.deeds : ∀ ds : List De, SdAll 1 (deDat ds)
  | [] => SdAll.nil
  | ⟨t, d⟩ :: r => by
    refine SdAll.cons (Sd.tup ?_) (SdAll.deeds r)
    cases d with
    | go => exact .cons .int (.cons (.str (by decide +kernel)) .nil)
    | back => exact .cons .int (.cons (.str (by decide +kernel)) .nil)
    | goto j => exact .cons .int (.cons (.str (by decide +kernel)) (.cons .int .nil))
    | stop => exact .cons .int (.cons (.str (by decide +kernel)) .nil)
    | on => exact .cons .int (.cons (.str (by decide +kernel)) .nil)
theorem Dp.deeds {K : PySem.W.Frag} {H : Hp} {a : Addr} {as : List Addr} {ds : List De} (h : H a = some (.lst (as.map V.ref))) (d : DeedsAt H as ds) : Dp K H (.ref a) (.list (deDat ds)) := .lst (.of h) d.dp
theorem DeedsAt.pick {H : Hp} {as : List Addr} {ds : List De} {k : Int} (h : DeedsAt H as ds) (h0 : 0 ≤ k) (h1 : k < ds.length) : ∃ x d r, atI (as.map V.ref) k = some (.ref x) ∧ d ∈ ds ∧ H x = some (.tup (.int d.1 :: r)) := by
  have hl : (as.map V.ref).length = ds.length := by rw [List.length_map, h.len]
  obtain ⟨v, hv, hv2⟩ := atI_lt (xs := as.map V.ref) h0 (by rw [hl]; exact h1)
  obtain ⟨x, d, rfl, hd, hx⟩ := h.at hv2
  obtain ⟨r, e⟩ := d.2.head d.1
  rw [e] at hx
  exact ⟨x, d, r, hv, List.mem_of_getElem? hd, hx⟩
theorem deDat_ne {ds : List De} (h : (!(deDat ds).isEmpty) = true) : 0 < ds.length := by
  cases ds with
  | nil => cases h
  | cons _ _ => exact Nat.succ_pos _

theorem cut_to {xs : List V} {n : Nat} (h : n ≤ xs.length) : cutV xs none (some (n : Int)) = xs.take n := by
  unfold cutV
  rw [HT.sIx_nat, HT.sIx_none, Nat.min_eq_left h, List.drop_zero, Nat.sub_zero]
theorem cut_from {xs : List V} {n : Nat} (h : n ≤ xs.length) : cutV xs (some (n : Int)) none = xs.drop n := by
  unfold cutV
  rw [HT.sIx_nat, HT.sIx_none, Nat.min_eq_left h]
  exact List.take_of_length_le (by rw [List.length_drop]; exact Nat.le_refl _)
def rSlTQ (K : PySem.W.Frag) : V → Option Int → Option Int → Hp → VK → Prop := fun x lo hi H Q => ∃ a xs, x = .ref a ∧ SqT K H a xs ∧ ¬ (HT.sIx xs.length 0 lo = 0 ∧ HT.sIx xs.length xs.length hi = xs.length) ∧ New (.tup (cutV xs lo hi)) H Q
theorem sl_tupK {X : Cx} : SlR X (rSlTQ X.K) := sl_tup.imp fun x lo hi H Q ⟨a, xs, e, h, z, q⟩ => ⟨a, xs, e, h, z, q.out⟩
theorem pair_take {α β : Type} {R : α → β → Prop} : ∀ {as : List α} {bs : List β} (n : Nat), Paired R as bs → Paired R (as.take n) (bs.take n)
  | [], _, _, .nil => by rw [List.take_nil, List.take_nil]; exact .nil
  | _ :: _, _ :: _, 0, _ => .nil
  | _ :: _, _ :: _, n + 1, .cons h k => .cons h (pair_take n k)
theorem pair_drop {α β : Type} {R : α → β → Prop} : ∀ {as : List α} {bs : List β} (n : Nat), Paired R as bs → Paired R (as.drop n) (bs.drop n)
  | [], _, _, .nil => by rw [List.drop_nil, List.drop_nil]; exact .nil
  | _ :: _, _ :: _, 0, h => h
  | _ :: _, _ :: _, n + 1, .cons _ k => pair_drop n k
theorem pair_app {α β : Type} {R : α → β → Prop} {cs : List α} {ds : List β} (q : Paired R cs ds) : ∀ {as : List α} {bs : List β}, Paired R as bs → Paired R (as ++ cs) (bs ++ ds)
  | [], _, .nil => q
  | _ :: _, _ :: _, .cons h k => .cons h (pair_app q k)
theorem up_pair {a b : De} {ys : List De} : ∀ {xs : List De} {n : Int}, UpD n (xs ++ a :: b :: ys) → a.1 ≤ b.1
  | [], _, h => h.2.1
  | _ :: xs, _, h => up_pair (xs := xs) h.2
theorem vtail (d : Dd) (t : Int) : ∃ r : List V, r ≠ [] ∧ r.length ≤ 2 ∧ ∀ u : Int, d.v u = V.int u :: r := by
  cases d with
  | go => exact ⟨[.str "go"], by simp, by decide, fun _ => rfl⟩
  | back => exact ⟨[.str "back"], by simp, by decide, fun _ => rfl⟩
  | goto k => exact ⟨[.str "goto", .int k], by simp, Nat.le_refl 2, fun _ => rfl⟩
  | stop => exact ⟨[.str "stop"], by simp, by decide, fun _ => rfl⟩
  | on => exact ⟨[.str "on"], by simp, by decide, fun _ => rfl⟩
def spFallen (K : PySem.W.Frag) : Sp := fun vs H Q _ => ∃ (dA : Addr) (as : List Addr) (ds : List De) (m : Int), vs = [.ref dA, .int m] ∧ H dA = some (.lst (as.map V.ref)) ∧ DeedsAt H as ds ∧ 2 ≤ ds.length ∧ ds.length ≤ 82 ∧ 0 ≤ m ∧
  ∀ (p : Addr) (as' : List Addr) (ds' : List De) H', Same H H' → H' p = some (.lst (as'.map V.ref)) → DeedsAt H' as' ds' → ¬ UpD 0 ds' → 2 ≤ ds'.length → ds'.length ≤ 84 → Q (.ref p) H'
theorem ok_l_fallen (T : Txt K mg) : ∃ fd, FnOk P w K mg base CX0 2 (He.fAd K ("_law_fallen", none)) fd ["_law_deeds_here", "_law_mixed_here"] (spFallen K) ∧ FunD K "_law_fallen" "_law_fallen" (defArgs s_l_fallen) (defBody s_l_fallen) (defScope s_l_fallen) [] [] (He.fAd K ("_law_fallen", none)) fd := by
  obtain ⟨fd, F⟩ := T.c.def_ 44 (d := d_l_fallen) rfl
  refine ⟨fd, F.ok sc_l_fallen (by walk_at "g94len") (fun cdv A outer st H vs Q E hr h => ?_), F⟩
  · obtain ⟨dA, as, ds, m, rfl, hdA, hd, d2, d82, m0, k⟩ := h
    refine ⟨_, PSs.nox (pss_cons (ps_setLc (i := 2) (own := [("_law_k", 5)]) (g := upG (gName 5)) rfl sc_l_fallen.nd rfl rfl (sw_true rfl rfl rfl (by decide +kernel)) (pi_range2 rfl (free_range T) (pa_cons pe_int (pa_cons (pe_callB call_len_seq (by rfl) (free_len T) (by decide +kernel) (pa_cons (pv 0) pa_nil)) pa_nil))) (blkOk_by (own := [("_law_k", 5)]) (N := ["_law_deeds_here", "_law_mixed_here", "_law_places", "_law_at", "_law_tick", "_law_k"]) (sc := defScope s_l_fallen) (by decide +kernel)) (fun _ _ _ _ _ => (PG.up (pg_name (i := 5) sc_l_fallen.nd rfl (Or.inl rfl)))) (fun _ _ _ _ _ => (PTs.up (pts_one (pt_cmpR op_gt (pe_ix (show IxR _ (rIxT K) from ix_tup) (pe_ix (show IxR _ (rIxL K) from ix_list) (pv 0) (pe_op op_sub (pv 5) pe_int) (fun _ _ => rfl)) pe_int (fun _ _ => rfl)) pe_int (nomark _))))) (fun _ _ _ _ _ => (PE.up (pv 5))))
        (pss_cons (ps_if (pt_cmpR (op_eqD hr.units) (pv 2) (pe_lstK pa_nil) (nomark _)) (pss_one (ps_ret (pe_op op_catK (pv 0) (pe_lstK (pa_cons (pe_tupK (pa_cons (pe_op op_add pe_int (pe_op op_mod (pv 1) pe_int)) (pa_cons pe_str pa_nil))) (pa_cons (pe_tupK (pa_cons (pe_op op_mod (pv 1) (pe_op op_add pe_int (pe_op op_mod (pv 1) pe_int))) (pa_cons pe_str pa_nil))) pa_nil)))))) pss_nil)
        (pss_cons (ps_set (i := 3) sc_l_fallen.nd rfl (Or.inl rfl) (pe_ix ix_list (pv 2) (pe_op op_mod (pv 1) (pe_callB call_len_seq (by rfl) (free_len T) (by decide +kernel) (pa_cons (pv 2) pa_nil))) (fun _ _ => rfl)))
        (pss_cons (ps_set (i := 4) sc_l_fallen.nd rfl (Or.inl rfl) (pe_op op_mod (pe_op op_fdiv (pv 1) pe_int) (pe_ix ix_tup (pe_ix ix_list (pv 0) (pe_op op_sub (pv 3) pe_int) (fun _ _ => rfl)) pe_int (fun _ _ => rfl))))
        (pss_one (ps_ret (pe_op op_catK (pe_op op_catK (pe_slice sl_listK (pv 0) po_none (po_some (pv 3))) (pe_lstK (pa_cons (pe_op op_catTK (pe_tupK (pa_cons (pv 4) pa_nil)) (pe_slice sl_tupK (pe_ix ix_list (pv 0) (pv 3) (fun _ _ => rfl)) (po_some pe_int) po_none)) pa_nil))) (pe_slice sl_listK (pv 0) (po_some (pe_op op_add (pv 3) pe_int)) po_none)))))))), ?_⟩
    have la := hd.len
    walk_at "wks"
    rw [List.length_map, la]
    walk_at "wks"
    refine fun D hD => lcK_range (lo := 1) (n := ((ds.length : Int) - 1).toNat) hD (fun i H' => ∃ ps : List Int, H' D = some (.lst (ps.map V.int)) ∧ ps.length ≤ i ∧ (∀ p ∈ ps, ∃ (j : Nat) (d e : De), p = (j : Int) + 1 ∧ ds[j]? = some d ∧ ds[j + 1]? = some e ∧ 0 < d.1) ∧ Same H H') (fun H' f s h => ⟨[], h, Nat.le_refl _, (fun p hp => nomatch hp), s⟩) ?_ ?_
    · rintro i H2 hi ⟨ps, h2, l2, a2, s2⟩
      have hi1 : i + 1 < ds.length := by omega
      obtain ⟨e, he⟩ : ∃ e, ds[i + 1]? = some e := ⟨_, List.getElem?_eq_getElem hi1⟩
      have hal : i < (as.map V.ref).length := by
        rw [List.length_map, la]
        omega
      obtain ⟨x, d, hx, hdi, ha⟩ := hd.at (List.getElem?_eq_getElem hal)
      have hat : atI (as.map V.ref) (1 + (i : Int) - 1) = some (.ref x) := by
        rw [show 1 + (i : Int) - 1 = (i : Int) by omega]
        exact atI_nat (by rw [List.getElem?_eq_getElem hal, hx])
      obtain ⟨r, er⟩ := d.2.head d.1
      rw [er] at ha
      have ha2 := s2 _ _ ha
      have hdA2 := s2 _ _ hdA
      refine ⟨rfl, ?_⟩
      walk_at "wks"
      refine iteD (fun c1 => ?_) (fun c1 => ?_)
      · walk_at "wks"
        refine ⟨_, h2, L2.szlt (by rw [List.length_map]; omega), fun H3 m3 h3 => ⟨ps ++ [1 + (i : Int)], ?_, ?_, fun p hp => ?_, s2.but m3 hD⟩⟩
        · rw [List.map_append]
          exact h3
        · rw [List.length_append]
          exact Nat.succ_le_succ l2
        · rcases List.mem_append.mp hp with hp | hp
          · exact a2 p hp
          · rw [List.mem_singleton.mp hp]
            exact ⟨i, d, e, by omega, hdi, he, c1⟩
      · exact ⟨ps, h2, by omega, a2, s2⟩
    rintro H2 ⟨ps, h2, l2, a2, s2⟩
    walk_at "wks"
    rename_i pE G1 g1 q1 e1
    have h2' := q1 _ _ h2
    refine ⟨_, _, Dp.ints h2', .lst (.of e1) .nil, (Sd.list (SdAll.ints (n := 0) _)).sh (by decide), (Sd.list (n := 0) SdAll.nil).sh (by decide), _, rfl, ?_⟩
    rw [eqv_nil]
    have s1 := s2.trans q1
    have hdA1 := s1 _ _ hdA
    have hd1 := hd.same s1
    clear e1 g1 q1 h2
    refine iteB (fun ce => ?_) (fun ce => ?_)
    · have hm5 : 0 < 1 + m % 5000 := by omega
      walk_at "wks"
      rename_i t1 G2 g2 q2 e2 t2 G3 g3 q3 e3 lB G4 g4 q4 e4 lC G5 g5 q5 e5
      have q35 := q4.trans q5
      have q25 := q3.trans q35
      have e2 : G2 t1 = some (.tup (Dd.go.v (1 + m % 5000))) := e2
      have e3 : G3 t2 = some (.tup (Dd.on.v (m % (1 + m % 5000)))) := e3
      refine k lC (as ++ [t1, t2]) (ds ++ [(1 + m % 5000, .go), (m % (1 + m % 5000), .on)]) _ (s1.trans (q2.trans q25)) (by rw [List.map_append]; exact e5) ?_ (fun q => ?_) ?_ ?_
      · have z1 : DeedsAt G5 (as ++ [t1]) (ds ++ [(1 + m % 5000, Dd.go)]) := Paired.snoc (hd1.same (q2.trans q25)) (q25 _ _ e2)
        have z2 : DeedsAt G5 (as ++ [t1] ++ [t2]) (ds ++ [(1 + m % 5000, Dd.go)] ++ [(m % (1 + m % 5000), Dd.on)]) := Paired.snoc z1 (q35 _ _ e3)
        rw [List.append_assoc, List.append_assoc] at z2
        exact z2
      · have h3 := up_pair (xs := ds) (ys := []) q
        have h4 := Int.emod_lt_of_pos m hm5
        have h3 : 1 + m % 5000 ≤ m % (1 + m % 5000) := h3
        omega
      · rw [List.length_append]
        omega
      · rw [List.length_append]
        show ds.length + 2 ≤ 84
        omega
    · have pl : 0 < ps.length := by
        cases ps with
        | nil => cases ce
        | cons _ _ => exact Nat.succ_pos _
      have hl : (0 : Int) < ((ps.map V.int).length : Int) := by
        rw [List.length_map]
        omega
      obtain ⟨v, hv, hv2⟩ := atI_lt (Int.emod_nonneg m (by omega)) (Int.emod_lt_of_pos m hl)
      obtain ⟨p, rfl, hp, _⟩ := int_at hv2
      obtain ⟨j, d, e, rfl, hdj, hej, d0⟩ := a2 p (List.mem_of_getElem? hp)
      have lj := (List.getElem?_eq_some_iff.mp hej).1
      have al : (as.map V.ref).length = ds.length := by rw [List.length_map, la]
      obtain ⟨x, d', hx, hdi, ha⟩ := hd1.at (i := j) (List.getElem?_eq_getElem (by omega))
      obtain rfl : d = d' := Option.some.inj (hdj.symm.trans hdi)
      obtain ⟨y, e', hy, hei, hb⟩ := hd1.at (i := j + 1) (List.getElem?_eq_getElem (by omega))
      obtain rfl : e = e' := Option.some.inj (hej.symm.trans hei)
      have hat1 : atI (as.map V.ref) ((j : Int) + 1 - 1) = some (.ref x) := by
        rw [show (j : Int) + 1 - 1 = (j : Int) by omega]
        exact atI_nat (by rw [List.getElem?_eq_getElem (by omega), hx])
      have hat2 : atI (as.map V.ref) ((j : Int) + 1) = some (.ref y) := by
        rw [show (j : Int) + 1 = ((j + 1 : Nat) : Int) by omega]
        exact atI_nat (by rw [List.getElem?_eq_getElem (by omega), hy])
      obtain ⟨r, er⟩ := d.2.head d.1
      obtain ⟨r2, r2n, r2l, er2⟩ := vtail e.2 e.1
      rw [er] at ha
      rw [er2] at hb
      have ec : cutV (V.int e.1 :: r2) (some 1) none = r2 := cut_from (xs := V.int e.1 :: r2) (n := 1) (by simp)
      have ecA : cutV (as.map V.ref) none (some ((j : Int) + 1)) = (as.take (j + 1)).map V.ref := by
        rw [show (j : Int) + 1 = ((j + 1 : Nat) : Int) by omega, cut_to (by omega), List.map_take]
      have ecB : cutV (as.map V.ref) (some ((j : Int) + 1 + 1)) none = (as.drop (j + 2)).map V.ref := by
        rw [show (j : Int) + 1 + 1 = ((j + 2 : Nat) : Int) by omega, cut_from (by omega), List.map_drop]
      walk_at "wks"
      rename_i pA H3 f3 s3 h3 pT H4 f4 s4 h4
      rw [ecA] at h3
      refine ⟨fun z => ?_, fun pS H5 f5 s5 h5 => ?_⟩
      · have z := z.1
        rw [show (some (1 : Int)) = some ((1 : Nat) : Int) from rfl, HT.sIx_nat, List.length_cons] at z
        omega
      rw [ec] at h5
      refine ⟨pT, pS, _, _, rfl, rfl, .of (s5 _ _ h4), .of h5, by simp, r2n, L2.small_size (by rw [List.length_singleton]; omega), fun pU H6 f6 s6 h6 => ?_⟩
      walk_at "wks"
      rename_i lD H7 f7 s7 h7 lE H8 f8 s8 h8 lF H9 f9 s9 h9
      rw [ecB] at h9
      have S6 := ((s3.trans s4).trans s5).trans s6
      have S9 := (s7.trans s8).trans s9
      refine ⟨lE, lF, _, _, rfl, rfl, s9 _ _ h8, h9, L2.small_size (by walk_at "sz"), fun lG H10 f10 s10 h10 => ?_⟩
      have hdN : Paired (fun a (d : De) => H10 a = some (.tup (d.2.v d.1))) as ds := hd1.same ((S6.trans S9).trans s10)
      have hU : H10 pU = some (.tup (e.2.v (m / 90 % d.1))) := by
        rw [er2]
        exact (S9.trans s10) _ _ h6
      refine k lG (as.take (j + 1) ++ [pU] ++ as.drop (j + 2)) (ds.take (j + 1) ++ [(m / 90 % d.1, e.2)] ++ ds.drop (j + 2)) _ (s1.trans ((S6.trans S9).trans s10)) ?_ ?_ (fun q => ?_) ?_ ?_
      · rw [List.map_append, List.map_append]
        exact h10
      · exact pair_app (R := fun a (d : De) => H10 a = some (.tup (d.2.v d.1))) (pair_drop (j + 2) hdN) (pair_app (cs := [pU]) (ds := [(m / 90 % d.1, e.2)]) (.cons hU .nil) (pair_take (j + 1) hdN))
      · rw [take_snoc hdj, List.append_assoc, List.append_assoc] at q
        have h3 : d.1 ≤ m / 90 % d.1 := up_pair (xs := ds.take j) q
        have h4 := Int.emod_lt_of_pos (m / 90) d0
        omega
      · rw [List.length_append, List.length_append, List.length_take, List.length_drop, List.length_singleton]
        omega
      · rw [List.length_append, List.length_append, List.length_take, List.length_drop, List.length_singleton]
        omega

def spTruths (K : PySem.W.Frag) : Sp := fun vs H Q _ => ∃ (way top : Int) (v : V) (dA : Addr) (as : List Addr) (ds : List De) (bs : List Bool), vs = [.int way, v, .ref dA, .int top] ∧ H dA = some (.lst (as.map V.ref)) ∧ DeedsAt H as ds ∧ ds.length ≤ 100 ∧
  ((∃ (cA : Addr) (xs : List Addr) (cs : List Cu), v = .ref cA ∧ H cA = some (.lst (xs.map V.ref)) ∧ CuesIn K H xs cs ∧ cs.length ≤ 100 ∧ ((UpD 0 ds ∧ bs = []) ∨ (¬ UpD 0 ds ∧ bs = [true, true, false, false]))) ∨ ((∀ H', Same H H' → BadL K H' v) ∧ bs = [true, false, true, false])) ∧
  ∀ (p : Addr) H', Same H H' → H' p = some (.lst (bs.map V.bl)) → Q (.ref p) H'
theorem ok_l_truths (T : Txt K mg) : ∃ fd, FnOk P w K mg base CX0 8 (He.fAd K ("_law_truths", none)) fd ["_law_way", "_law_cues", "_law_deeds_here", "_law_top"] (spTruths K) ∧ FunD K "_law_truths" "_law_truths" (defArgs s_l_truths) (defBody s_l_truths) (defScope s_l_truths) [] [] (He.fAd K ("_law_truths", none)) fd := by
  obtain ⟨fd, F⟩ := T.c.def_ 45 (d := d_l_truths) rfl
  obtain ⟨fd_rows_of, G_rows_of, F_rows_of⟩ := ok_rows_of (P := P) (w := w) (base := base) T
  have kp_rows_of := F_rows_of.kp
  obtain ⟨d1_rows_of, v1_rows_of, b1_rows_of⟩ : ∃ ds, Vals ([V.int 1].drop 0) ds ∧ Binds K fd_rows_of ["cues", "deeds", "top", "bottom"] ds := F_rows_of.binds1 3 0 (by decide) rfl (fun _ _ _ _ _ _ _ us its h1 h2 => match us, its, h1, h2 with | [_, _, _], [_], _, _ => ⟨_, rfl, rfl⟩)
  obtain ⟨fd_told, G_told, F_told⟩ := ok_told (P := P) (w := w) (base := base) T
  have kp_told := F_told.kp
  obtain ⟨d1_told, v1_told, b1_told⟩ : ∃ ds, Vals ([V.int 1].drop 0) ds ∧ Binds K fd_told ["cues", "deeds", "top", "bottom"] ds := F_told.binds1 3 0 (by decide) rfl (fun _ _ _ _ _ _ _ us its h1 h2 => match us, its, h1, h2 with | [_, _, _], [_], _, _ => ⟨_, rfl, rfl⟩)
  refine ⟨fd, F.ok sc_l_truths (by walk_at "g94len") (fun cdv A outer st H vs Q E hr h => ?_), F⟩
  · obtain ⟨way, top, v, dA, as, ds, bs, rfl, hdA, hd, dl, hk, k⟩ := h
    refine ⟨_, PSs.nox (pss_cons (ps_set (i := 4) sc_l_truths.nd rfl (Or.inl rfl) (pe_lstK pa_nil))
        (pss_cons (ps_try_as (i := 5) rfl rfl sc_l_truths.nd rfl rfl ⟨rfl, by decide, .inl (glo_LampError T)⟩ takes0 (fun W pn xe tk _ => (pss_one (ps_if (pt_cmpR op_eq (pv 0) pe_int (nomark _)) (pss_one (ps_expr (pe_callSd G_rows_of (hr.mono (by decide)) rfl (glo_rows_of T) kp_rows_of b1_rows_of v1_rows_of (fun σ => passAt tk σ) (pa_cons (pv 1) (pa_cons (pv 2) (pa_cons (pv 3) pa_nil)))))) (pss_one (ps_expr (pe_callSd G_told (hr.mono (by decide)) rfl (glo_told T) kp_told b1_told v1_told (fun σ => passAt tk σ) (pa_cons (pv 1) (pa_cons (pv 2) (pa_cons (pv 3) pa_nil))))))))) (fun a oe cls d pn hz hf => (pss_cons (ps_set (i := 4) sc_l_truths.nd rfl (Or.inl rfl) (pe_lstK (pa_cons (pe_callB (call_isX hz hf) (by rfl) (free_isinstance T) (by decide +kernel) (pa_cons (pv 5) (pa_cons (pe_bltn (v := .ty "ValueError") (by rfl) (free_ValueError T) (by decide +kernel) rfl) pa_nil))) (pa_cons (pe_callB (call_isX hz hf) (by rfl) (free_isinstance T) (by decide +kernel) (pa_cons (pv 5) (pa_cons (pe_glob (v := .ref (He.ga K "Late")) rfl (glo_Late T) rfl) pa_nil))) pa_nil))))
        (pss_one (ps_set (i := 4) sc_l_truths.nd rfl (Or.inl rfl) (pe_op op_catK (pv 4) (pe_lstK (pa_cons (pe_callB (call_isX hz hf) (by rfl) (free_isinstance T) (by decide +kernel) (pa_cons (pv 5) (pa_cons (pe_glob (v := .ref (He.ga K "NoList")) rfl (glo_NoList T) rfl) pa_nil))) (pa_cons (pe_callB (call_isX hz hf) (by rfl) (free_isinstance T) (by decide +kernel) (pa_cons (pv 5) (pa_cons (pe_glob (v := .ref (He.ga K "NoCue")) rfl (glo_NoCue T) rfl) pa_nil))) pa_nil)))))))))
        (pss_one (ps_ret (pv 4))))), ?_⟩
    walk_at "wks"
    rename_i pT H1 f1 s1 h1
    refine iteV (fun cw => ?_) (fun cw => ?_)
    · walk_at "wks"
      refine ⟨as, ds, s1 _ _ hdA, hd.same s1, dl, ?_⟩
      rcases hk with ⟨cA, xs, cs, rfl, hcA, hc, cl, ⟨hu, rfl⟩ | ⟨hn, rfl⟩⟩ | ⟨bad, rfl⟩
      · refine .inl ⟨cA, xs, cs, rfl, s1 _ _ hcA, hc.same s1, cl, .inl ⟨hu, fun p rA ts H2 told _ _ => ?_⟩⟩
        walk_at "wks"
        exact k pT _ (s1.trans told.base) (told.base _ _ h1)
      · refine .inl ⟨cA, xs, cs, rfl, s1 _ _ hcA, hc.same s1, cl, .inr ⟨hn, fun H2 s2 => ⟨true, exm_Late_LampError T, fun _ a ha => ?_, fun q => nomatch q⟩⟩⟩
        (repeat first | (refine ⟨_, rfl, _, rfl, rfl, excC_Late T, _, _, _, rfl, (fun _ h => h), is_Late_ValueError T, ?_⟩) | (refine ⟨_, rfl, _, rfl, rfl, excC_Late T, _, _, _, rfl, (fun _ h => h), is_Late_Late T, ?_⟩) | (refine ⟨_, rfl, _, rfl, rfl, excC_Late T, _, _, _, rfl, (fun _ h => h), is_Late_NoList T, ?_⟩) | (refine ⟨_, rfl, _, rfl, rfl, excC_Late T, _, _, _, rfl, (fun _ h => h), is_Late_NoCue T, ?_⟩) | (walk_at "rd"))
        intro p1 G1 g1 q1 e1
        (repeat first | (refine ⟨_, rfl, _, rfl, rfl, excC_Late T, _, _, _, rfl, (fun _ h => h), is_Late_ValueError T, ?_⟩) | (refine ⟨_, rfl, _, rfl, rfl, excC_Late T, _, _, _, rfl, (fun _ h => h), is_Late_Late T, ?_⟩) | (refine ⟨_, rfl, _, rfl, rfl, excC_Late T, _, _, _, rfl, (fun _ h => h), is_Late_NoList T, ?_⟩) | (refine ⟨_, rfl, _, rfl, rfl, excC_Late T, _, _, _, rfl, (fun _ h => h), is_Late_NoCue T, ?_⟩) | (walk_at "rd"))
        walk_at "wks"
        exact k _ _ (by walk_at "sm") (by assumption)
      · refine .inr ⟨bad _ s1, ⟨true, exm_NoList_LampError T, fun _ a ha => ?_, fun q => nomatch q⟩⟩
        (repeat first | (refine ⟨_, rfl, _, rfl, rfl, excC_NoList T, _, _, _, rfl, (fun _ h => h), is_NoList_ValueError T, ?_⟩) | (refine ⟨_, rfl, _, rfl, rfl, excC_NoList T, _, _, _, rfl, (fun _ h => h), is_NoList_Late T, ?_⟩) | (refine ⟨_, rfl, _, rfl, rfl, excC_NoList T, _, _, _, rfl, (fun _ h => h), is_NoList_NoList T, ?_⟩) | (refine ⟨_, rfl, _, rfl, rfl, excC_NoList T, _, _, _, rfl, (fun _ h => h), is_NoList_NoCue T, ?_⟩) | (walk_at "rd"))
        intro p1 G1 g1 q1 e1
        (repeat first | (refine ⟨_, rfl, _, rfl, rfl, excC_NoList T, _, _, _, rfl, (fun _ h => h), is_NoList_ValueError T, ?_⟩) | (refine ⟨_, rfl, _, rfl, rfl, excC_NoList T, _, _, _, rfl, (fun _ h => h), is_NoList_Late T, ?_⟩) | (refine ⟨_, rfl, _, rfl, rfl, excC_NoList T, _, _, _, rfl, (fun _ h => h), is_NoList_NoList T, ?_⟩) | (refine ⟨_, rfl, _, rfl, rfl, excC_NoList T, _, _, _, rfl, (fun _ h => h), is_NoList_NoCue T, ?_⟩) | (walk_at "rd"))
        walk_at "wks"
        exact k _ _ (by walk_at "sm") (by assumption)
    · walk_at "wks"
      refine ⟨as, ds, s1 _ _ hdA, hd.same s1, dl, ?_⟩
      rcases hk with ⟨cA, xs, cs, rfl, hcA, hc, cl, ⟨hu, rfl⟩ | ⟨hn, rfl⟩⟩ | ⟨bad, rfl⟩
      · refine .inl ⟨cA, xs, cs, rfl, s1 _ _ hcA, hc.same s1, cl, .inl ⟨hu, fun p H2 s2 => ?_⟩⟩
        walk_at "wks"
        exact k pT _ (s1.trans s2) (s2 _ _ h1)
      · refine .inl ⟨cA, xs, cs, rfl, s1 _ _ hcA, hc.same s1, cl, .inr ⟨hn, fun H2 s2 => ⟨true, exm_Late_LampError T, fun _ a ha => ?_, fun q => nomatch q⟩⟩⟩
        (repeat first | (refine ⟨_, rfl, _, rfl, rfl, excC_Late T, _, _, _, rfl, (fun _ h => h), is_Late_ValueError T, ?_⟩) | (refine ⟨_, rfl, _, rfl, rfl, excC_Late T, _, _, _, rfl, (fun _ h => h), is_Late_Late T, ?_⟩) | (refine ⟨_, rfl, _, rfl, rfl, excC_Late T, _, _, _, rfl, (fun _ h => h), is_Late_NoList T, ?_⟩) | (refine ⟨_, rfl, _, rfl, rfl, excC_Late T, _, _, _, rfl, (fun _ h => h), is_Late_NoCue T, ?_⟩) | (walk_at "rd"))
        intro p1 G1 g1 q1 e1
        (repeat first | (refine ⟨_, rfl, _, rfl, rfl, excC_Late T, _, _, _, rfl, (fun _ h => h), is_Late_ValueError T, ?_⟩) | (refine ⟨_, rfl, _, rfl, rfl, excC_Late T, _, _, _, rfl, (fun _ h => h), is_Late_Late T, ?_⟩) | (refine ⟨_, rfl, _, rfl, rfl, excC_Late T, _, _, _, rfl, (fun _ h => h), is_Late_NoList T, ?_⟩) | (refine ⟨_, rfl, _, rfl, rfl, excC_Late T, _, _, _, rfl, (fun _ h => h), is_Late_NoCue T, ?_⟩) | (walk_at "rd"))
        walk_at "wks"
        exact k _ _ (by walk_at "sm") (by assumption)
      · refine .inr ⟨bad _ s1, ⟨true, exm_NoList_LampError T, fun _ a ha => ?_, fun q => nomatch q⟩⟩
        (repeat first | (refine ⟨_, rfl, _, rfl, rfl, excC_NoList T, _, _, _, rfl, (fun _ h => h), is_NoList_ValueError T, ?_⟩) | (refine ⟨_, rfl, _, rfl, rfl, excC_NoList T, _, _, _, rfl, (fun _ h => h), is_NoList_Late T, ?_⟩) | (refine ⟨_, rfl, _, rfl, rfl, excC_NoList T, _, _, _, rfl, (fun _ h => h), is_NoList_NoList T, ?_⟩) | (refine ⟨_, rfl, _, rfl, rfl, excC_NoList T, _, _, _, rfl, (fun _ h => h), is_NoList_NoCue T, ?_⟩) | (walk_at "rd"))
        intro p1 G1 g1 q1 e1
        (repeat first | (refine ⟨_, rfl, _, rfl, rfl, excC_NoList T, _, _, _, rfl, (fun _ h => h), is_NoList_ValueError T, ?_⟩) | (refine ⟨_, rfl, _, rfl, rfl, excC_NoList T, _, _, _, rfl, (fun _ h => h), is_NoList_Late T, ?_⟩) | (refine ⟨_, rfl, _, rfl, rfl, excC_NoList T, _, _, _, rfl, (fun _ h => h), is_NoList_NoList T, ?_⟩) | (refine ⟨_, rfl, _, rfl, rfl, excC_NoList T, _, _, _, rfl, (fun _ h => h), is_NoList_NoCue T, ?_⟩) | (walk_at "rd"))
        walk_at "wks"
        exact k _ _ (by walk_at "sm") (by assumption)
def cuN (ms : List Int) : List Cu := ms.map fun m => (m, none)
theorem cuN_fst : ∀ ms : List Int, (cuN ms).map (·.1) = ms
  | [] => rfl
  | m :: r => by
    show m :: (cuN r).map (·.1) = _
    rw [cuN_fst r]
theorem cuN_up : ∀ {n : Int} {ms : List Int}, RisingN n ms → Rising n (cuN ms)
  | _, [], _ => trivial
  | _, _ :: _, h => ⟨h.1, cuN_up h.2⟩
theorem risingN_pos : ∀ {n : Int} {ms : List Int}, RisingN n ms → ∀ m ∈ ms, n < m
  | n, d :: r, ⟨h1, h2⟩, m, hm => by
    rcases List.mem_cons.mp hm with rfl | hm
    · exact h1
    · have := risingN_pos h2 m hm
      omega
/-- a cue, its list of parts another one than D -/
def CueD (K : PySem.W.Frag) (D : Addr) (H : Hp) (x : Addr) (c : Cu) : Prop := ∃ dx l p, H x = some (.ins (cC K) dx (cfl c.1 l false c.2)) ∧ H l = some (.lst [.ref p]) ∧ l ≠ D ∧ PartAt K H p
theorem CueD.cue {K : PySem.W.Frag} {D : Addr} {H : Hp} {x : Addr} {c : Cu} (h : CueD K D H x c) : CueAt K H x c := by
  obtain ⟨dx, l, p, h1, h2, _, h4⟩ := h
  exact ⟨⟨dx, l, p, h1, h2, h4⟩⟩
theorem CueD.same {K : PySem.W.Frag} {D : Addr} {H H' : Hp} {x : Addr} {c : Cu} (h : CueD K D H x c) (s : Same H H') : CueD K D H' x c := by
  obtain ⟨dx, l, p, h1, h2, h3, h4⟩ := h
  exact ⟨dx, l, p, s _ _ h1, s _ _ h2, h3, h4.same s⟩
theorem PartAt.put {K : PySem.W.Frag} {D : Addr} {H H' : Hp} {x : Addr} {zs : List V} (h : PartAt K H x) (m : But D H H') (e : H D = some (.lst zs)) : PartAt K H' x := by
  obtain ⟨dx, t, a, r, f, w, h1, h2, h3⟩ := h.ob
  exact ⟨⟨dx, t, a, r, f, w, m.kind e h1 (by intro z; cases z), m.kind e h2 (by intro z; cases z), m.kind e h3 (by intro z; cases z)⟩⟩
theorem CueD.put {K : PySem.W.Frag} {D : Addr} {H H' : Hp} {x : Addr} {c : Cu} {zs : List V} (h : CueD K D H x c) (m : But D H H') (e : H D = some (.lst zs)) : CueD K D H' x c := by
  obtain ⟨dx, l, p, h1, h2, h3, h4⟩ := h
  exact ⟨dx, l, p, m.kind e h1 (by intro z; cases z), m _ _ h3 h2, h3, h4.put m e⟩
theorem dp_bls {K : PySem.W.Frag} {H : Hp} : ∀ bs : List Bool, DpAll K H (bs.map V.bl) (bs.map PyData.bool)
  | [] => .nil
  | b :: r => .cons (.bl b) (dp_bls r)

theorem good_pair {b a : Cu} {ys zs : List (Option Cu)} : ∀ {xs : List (Option Cu)} {n : Int}, GoodO n (xs ++ some a :: (ys ++ some b :: zs)) → a.1 < b.1
  | [], n, h => by
    have h2 : GoodO a.1 (ys ++ some b :: zs) := h.2
    clear h
    revert h2
    suffices H : ∀ (ys : List (Option Cu)) (m : Int), a.1 ≤ m → GoodO m (ys ++ some b :: zs) → a.1 < b.1 from H ys a.1 (Int.le_refl _)
    intro ys
    induction ys with
    | nil =>
      intro m hm h
      have := h.1
      omega
    | cons y r ih =>
      intro m hm h
      cases y with
      | none => exact h.elim
      | some c => exact ih c.1 (by have := h.1; omega) h.2
  | none :: xs, n, h => h.elim
  | some c :: xs, n, h => good_pair (xs := xs) h.2
theorem good_none {ys : List (Option Cu)} : ∀ {xs : List (Option Cu)} {n : Int}, ¬ GoodO n (xs ++ none :: ys)
  | [], _, h => h
  | none :: _, _, h => h
  | some _ :: xs, _, h => good_none (xs := xs) h.2
theorem elts {K : PySem.W.Frag} {H : Hp} : ∀ {xs : List Addr} {cs : List Cu}, Paired (CueAt K H) xs cs → Paired (EltAt K H) (xs.map V.ref) (cs.map some)
  | _, _, .nil => .nil
  | _, _, .cons h k => .cons ⟨_, rfl, h⟩ (elts k)
theorem pair_rev {α β : Type} {R : α → β → Prop} : ∀ {as : List α} {bs : List β}, Paired R as bs → Paired R as.reverse bs.reverse
  | _, _, .nil => .nil
  | _, _, .cons h k => by
    rw [List.reverse_cons, List.reverse_cons]
    exact Paired.snoc (pair_rev k) h
theorem twice_bad {n : Int} {os ps : List (Option Cu)} {c : Cu} : ¬ GoodO n ((os ++ some c :: ps) ++ (os ++ some c :: ps)) := fun h => by
  rw [List.append_assoc, List.cons_append, ← List.append_assoc ps os] at h
  have := good_pair h
  omega
def spLaw (K : PySem.W.Frag) : Sp := fun vs H Q _ => ∃ (a : Addr) (ns : List Int), vs = [.ref a] ∧ SqL K H a (ns.map V.int) ∧ ns.length ≤ 63 ∧ (∀ z ∈ ns, Builtin.Int.intBits z ≤ 1048576) ∧ Only H ∧ ∀ H', Q (.bl true) H'

theorem ok_law (T : Txt K mg) : ∃ fd, FnOk P w K mg base CX0 9 (He.fAd K ("law", none)) fd ["_law_script"] (spLaw K) ∧ FunD K "law" "law" (defArgs s_law) (defBody s_law) (defScope s_law) [] [] (He.fAd K ("law", none)) fd := by
  obtain ⟨fd, F⟩ := T.c.def_ 46 (d := d_law) rfl
  obtain ⟨fd_l_mixed, G_l_mixed, F_l_mixed⟩ := ok_l_mixed (P := P) (w := w) (base := base) T
  have kp_l_mixed := F_l_mixed.kp
  have b_l_mixed : Binds K fd_l_mixed ["_law_cell", "_law_k"] [] := FunD.bindsN F_l_mixed (fun _ _ _ _ _ _ us hl => match us, hl with | [_, _], _ => rfl)
  obtain ⟨fd_l_numbers, G_l_numbers, F_l_numbers⟩ := ok_l_numbers (P := P) (w := w) (base := base) T
  have kp_l_numbers := F_l_numbers.kp
  have b_l_numbers : Binds K fd_l_numbers ["_law_mixed_here"] [] := FunD.bindsN F_l_numbers (fun _ _ _ _ _ _ us hl => match us, hl with | [_], _ => rfl)
  obtain ⟨fd_l_deeds, G_l_deeds, F_l_deeds⟩ := ok_l_deeds (P := P) (w := w) (base := base) T
  have kp_l_deeds := F_l_deeds.kp
  have b_l_deeds : Binds K fd_l_deeds ["_law_script"] [] := FunD.bindsN F_l_deeds (fun _ _ _ _ _ _ us hl => match us, hl with | [_], _ => rfl)
  obtain ⟨fd_l_fallen, G_l_fallen, F_l_fallen⟩ := ok_l_fallen (P := P) (w := w) (base := base) T
  have kp_l_fallen := F_l_fallen.kp
  have b_l_fallen : Binds K fd_l_fallen ["_law_deeds_here", "_law_mixed_here"] [] := FunD.bindsN F_l_fallen (fun _ _ _ _ _ _ us hl => match us, hl with | [_, _], _ => rfl)
  obtain ⟨fd_l_cell_at, G_l_cell_at, F_l_cell_at⟩ := ok_l_cell_at (P := P) (w := w) (base := base) T
  have kp_l_cell_at := F_l_cell_at.kp
  have b_l_cell_at : Binds K fd_l_cell_at ["_law_script", "_law_k"] [] := FunD.bindsN F_l_cell_at (fun _ _ _ _ _ _ us hl => match us, hl with | [_, _], _ => rfl)
  obtain ⟨fd_Cue_init, G_Cue_init, F_Cue_init⟩ := ok_Cue_init (P := P) (w := w) (base := base) T
  have kp_Cue_init := F_Cue_init.kp
  obtain ⟨d2_Cue_init, v2_Cue_init, b2_Cue_init⟩ : ∃ ds, Vals ([V.bl false, V.non].drop 0) ds ∧ Binds K fd_Cue_init ["self", "number", "parts", "stops", "follow"] ds := F_Cue_init.binds1 3 0 (by decide) rfl (fun _ _ _ _ _ _ _ us its h1 h2 => match us, its, h1, h2 with | [_, _, _], [_, _], _, _ => ⟨_, rfl, rfl⟩)
  obtain ⟨fd_l_truths, G_l_truths, F_l_truths⟩ := ok_l_truths (P := P) (w := w) (base := base) T
  have kp_l_truths := F_l_truths.kp
  have b_l_truths : Binds K fd_l_truths ["_law_way", "_law_cues", "_law_deeds_here", "_law_top"] [] := FunD.bindsN F_l_truths (fun _ _ _ _ _ _ us hl => match us, hl with | [_, _, _, _], _ => rfl)
  obtain ⟨fd_Part_init, G_Part_init, F_Part_init⟩ := ok_Part_init (P := P) (w := w) (base := base) T
  have kp_Part_init := F_Part_init.kp
  obtain ⟨d3_Part_init, v3_Part_init, b3_Part_init⟩ : ∃ ds, Vals ([V.int 0, V.int 0, V.int 0].drop 0) ds ∧ Binds K fd_Part_init ["self", "tells", "alone", "rise", "fall", "wait"] ds := F_Part_init.binds1 3 0 (by decide) rfl (fun _ _ _ _ _ _ _ us its h1 h2 => match us, its, h1, h2 with | [_, _, _], [_, _, _], _, _ => ⟨_, rfl, rfl⟩)
  refine ⟨fd, F.ok sc_law (by walk_at "g94len") (fun cdv A outer st H vs Q E hr h => ?_), F⟩
  · obtain ⟨a, ns, rfl, hS, hlen, hbits, hO, k⟩ := h
    refine ⟨_, PSs.nox (pss_cons (ps_set (i := 1) sc_law.nd rfl (Or.inl rfl) (pe_call G_l_mixed (hr.mono (by decide)) rfl (glo__law_mixed T) kp_l_mixed b_l_mixed .nil pass0 (pa_cons (pe_call G_l_cell_at (hr.mono (by decide)) rfl (glo__law_cell_at T) kp_l_cell_at b_l_cell_at .nil pass0 (pa_cons (pv 0) (pa_cons pe_int pa_nil))) (pa_cons pe_int pa_nil))))
        (pss_cons (ps_set (i := 2) sc_law.nd rfl (Or.inl rfl) (pe_call G_l_numbers (hr.mono (by decide)) rfl (glo__law_numbers T) kp_l_numbers b_l_numbers .nil pass0 (pa_cons (pv 1) pa_nil)))
        (pss_cons (ps_setLc (i := 3) (own := [("_law_number", 12)]) (g := upG (gName 12)) rfl sc_law.nd rfl rfl (sw_true rfl rfl rfl (by decide +kernel)) (pi_list (pv 2)) (blkOk_by (own := [("_law_number", 12)]) (N := ["_law_script", "_law_mixed_here", "_law_numbers_here", "_law_cues", "_law_none", "_law_deeds_here", "_law_fallen_here", "_law_ticks", "_law_tops", "_law_top", "_law_kept", "_law_way", "_law_number", "_law_deed"]) (sc := defScope s_law) (by decide +kernel)) (fun _ _ _ _ _ => (PG.up (pg_name (i := 12) sc_law.nd rfl (Or.inl rfl)))) (fun _ _ _ _ _ => (PTs.up pts_nil)) (fun _ _ _ _ _ => (PE.up (pe_makeK (mk_Cue T) G_Cue_init (hr.mono (by decide)) rfl (glo_Cue T) b2_Cue_init v2_Cue_init pass0 (pa_cons (pv 12) (pa_cons (pe_lstK (pa_cons (pe_makeK (mk_Part T) G_Part_init (hr.mono (by decide)) rfl (glo_Part T) b3_Part_init v3_Part_init pass0 (pa_cons pe_dnewKK (pa_cons pe_dnewKK pa_nil))) pa_nil)) pa_nil))))))
        (pss_cons (ps_set (i := 4) sc_law.nd rfl (Or.inl rfl) (pe_ix ix_list (pe_lstK (pa_cons pe_non (pa_cons (pe_callTy call_tupleK (by rfl) (free_tuple T) (by decide +kernel) (pa_cons (pv 3) pa_nil)) (pa_cons pe_dnewKK (pa_cons (pe_op op_catK (pv 3) (pv 3)) (pa_cons (pe_op op_catK (pv 3) (pe_lstK (pa_cons pe_non pa_nil))) (pa_cons (pe_listRev rfl (by rfl) (free_list T) (by rfl) (free_reversed T) (pe_op op_catK (pv 3) (pv 3))) pa_nil))))))) (pe_op op_mod (pe_op op_fdiv (pv 1) pe_int) pe_int) (fun _ _ => rfl)))
        (pss_cons (ps_set (i := 5) sc_law.nd rfl (Or.inl rfl) (pe_call G_l_deeds (hr.mono (by decide)) rfl (glo__law_deeds T) kp_l_deeds b_l_deeds .nil pass0 (pa_cons (pv 0) pa_nil)))
        (pss_cons (ps_set (i := 6) sc_law.nd rfl (Or.inl rfl) (pe_call G_l_fallen (hr.mono (by decide)) rfl (glo__law_fallen T) kp_l_fallen b_l_fallen .nil pass0 (pa_cons (pv 5) (pa_cons (pe_call G_l_mixed (hr.mono (by decide)) rfl (glo__law_mixed T) kp_l_mixed b_l_mixed .nil pass0 (pa_cons (pe_call G_l_cell_at (hr.mono (by decide)) rfl (glo__law_cell_at T) kp_l_cell_at b_l_cell_at .nil pass0 (pa_cons (pv 0) (pa_cons pe_int pa_nil))) (pa_cons pe_int pa_nil))) pa_nil))))
        (pss_cons (ps_setLc (i := 7) (own := [("_law_deed", 13)]) (g := upG (gName 13)) rfl sc_law.nd rfl rfl (sw_true rfl rfl rfl (by decide +kernel)) (pi_list (pv 6)) (blkOk_by (own := [("_law_deed", 13)]) (N := ["_law_script", "_law_mixed_here", "_law_numbers_here", "_law_cues", "_law_none", "_law_deeds_here", "_law_fallen_here", "_law_ticks", "_law_tops", "_law_top", "_law_kept", "_law_way", "_law_number", "_law_deed"]) (sc := defScope s_law) (by decide +kernel)) (fun _ _ _ _ _ => (PG.up (pg_name (i := 13) sc_law.nd rfl (Or.inl rfl)))) (fun _ _ _ _ _ => (PTs.up pts_nil)) (fun _ _ _ _ _ => (PE.up (pe_ix (show IxR _ (rIxT K) from ix_tup) (pv 13) pe_int (fun _ _ => rfl)))))
        (pss_cons (ps_set (i := 8) sc_law.nd rfl (Or.inl rfl) (pe_lstK (pa_cons pe_int (pa_cons (pe_callB (cr_min rfl) (by rfl) (free_min T) (by decide +kernel) (pa_cons (pv 7) pa_nil)) (pa_cons (pe_callB (cr_max rfl) (by rfl) (free_max T) (by decide +kernel) (pa_cons (pv 7) pa_nil)) (pa_cons (pe_op op_add (pe_op op_add (pe_callB (cr_max rfl) (by rfl) (free_max T) (by decide +kernel) (pa_cons (pv 7) pa_nil)) pe_int) (pe_op op_mod (pv 1) pe_int)) pa_nil))))))
        (pss_cons (ps_set (i := 9) sc_law.nd rfl (Or.inl rfl) (pe_ix ix_list (pv 8) (pe_op op_mod (pe_call G_l_cell_at (hr.mono (by decide)) rfl (glo__law_cell_at T) kp_l_cell_at b_l_cell_at .nil pass0 (pa_cons (pv 0) (pa_cons pe_int pa_nil))) pe_int) (fun _ _ => rfl)))
        (pss_cons (ps_set (i := 10) sc_law.nd rfl (Or.inl rfl) (pe_lstK (pa_cons (pe_callTy call_listK (by rfl) (free_list T) (by decide +kernel) (pa_cons (pv 3) pa_nil)) (pa_cons (pe_callTy call_listK (by rfl) (free_list T) (by decide +kernel) (pa_cons (pv 6) pa_nil)) pa_nil))))
        (pss_cons (ps_for PassesOwn.never rfl (pi_range1 rfl (free_range T) (pa_cons pe_int pa_nil)) (pg_name (i := 11) sc_law.nd rfl (Or.inl rfl)) (pss_cons (ps_if (pt_cmpR (op_neD hr.units) (pe_call G_l_truths (hr.mono (by decide)) rfl (glo__law_truths T) kp_l_truths b_l_truths .nil pass0 (pa_cons (pv 11) (pa_cons (pv 3) (pa_cons (pv 6) (pa_cons (pv 9) pa_nil))))) (pe_lstK (pa_cons pe_bl (pa_cons pe_bl (pa_cons pe_bl (pa_cons pe_bl pa_nil))))) (nomark _)) (pss_one (ps_ret pe_bl)) pss_nil)
        (pss_cons (ps_if (pt_cmpR (op_neD hr.units) (pe_call G_l_truths (hr.mono (by decide)) rfl (glo__law_truths T) kp_l_truths b_l_truths .nil pass0 (pa_cons (pv 11) (pa_cons (pv 4) (pa_cons (pv 6) (pa_cons (pv 9) pa_nil))))) (pe_lstK (pa_cons pe_bl (pa_cons pe_bl (pa_cons pe_bl (pa_cons pe_bl pa_nil))))) (nomark _)) (pss_one (ps_ret pe_bl)) pss_nil)
        (pss_cons (ps_if (pt_cmpR (op_neD hr.units) (pe_call G_l_truths (hr.mono (by decide)) rfl (glo__law_truths T) kp_l_truths b_l_truths .nil pass0 (pa_cons (pv 11) (pa_cons (pv 4) (pa_cons (pv 5) (pa_cons (pv 9) pa_nil))))) (pe_lstK (pa_cons pe_bl (pa_cons pe_bl (pa_cons pe_bl (pa_cons pe_bl pa_nil))))) (nomark _)) (pss_one (ps_ret pe_bl)) pss_nil)
        (pss_one (ps_if (pt_cmpR (op_neD hr.units) (pe_call G_l_truths (hr.mono (by decide)) rfl (glo__law_truths T) kp_l_truths b_l_truths .nil pass0 (pa_cons (pv 11) (pa_cons (pv 3) (pa_cons (pv 5) (pa_cons (pv 9) pa_nil))))) (pe_lstK pa_nil) (nomark _)) (pss_one (ps_ret pe_bl)) pss_nil))))))
        (pss_one (ps_ret (pe_cmpR (op_eqK hr.units) (pe_lstK (pa_cons (pv 3) (pa_cons (pv 6) pa_nil))) (pv 10) (nomark _))))))))))))))), ?_⟩
    clear hbits hO
    walk_at "wks"
    intro c0
    walk_at "wks"
    intro mx mx0 mx1
    walk_at "wks"
    intro mA ms H1 s1 f1 h1 r1 l1 b1 nn1
    have hS1 := s1.seq hS
    refine ⟨_, rfl, mA, rfl, ⟨_, .of h1⟩, fun D hD => lcK_list (K := K) (a := mA) (xs := ms.map V.int) hD (fun i H' => ∃ xs : List Addr, H' D = some (.lst (xs.map V.ref)) ∧ Paired (CueD K D H') xs (cuN (ms.take i)) ∧ Same H1 H') (fun H' f s h => ⟨[], h, .nil, s⟩) (fun i H' _ ⟨_, _, _, q⟩ => .of (q _ _ h1)) ?_ ?_⟩
    · rintro i x H2 hx ⟨xs, h2, c2, s2⟩
      obtain ⟨m, rfl, hm, hil⟩ := int_at hx
      have m0 := risingN_pos r1 m (List.mem_of_getElem? hm)
      have m1 := b1 m (List.mem_of_getElem? hm)
      have lx : xs.length = i := by
        have := Paired.length c2
        unfold cuN at this
        rw [List.length_map, List.length_take] at this
        omega
      refine ⟨rfl, ?_⟩
      walk_at "wks"
      rename_i pt G1 g1 q1 e1 pa G2 g2 q2 e2
      intro px pdx G3 g3 q3 e3
      refine ⟨px, pdx, pt, pa, 0, 0, 0, rfl, e3, (by walk_at "hp"), (by walk_at "hp"), ⟨by decide, by decide⟩, ⟨by decide, by decide⟩, ⟨by decide, by decide⟩, fun G4 m4 hP => ⟨rfl, ?_⟩⟩
      walk_at "wks"
      rename_i pl G5 g5 q5 e5
      intro y dy G6 g6 q6 e6
      refine ⟨y, dy, pl, px, m, none, rfl, e6, q6 _ _ e5, (hP.same q5).same q6, by omega, by omega, trivial, fun l' G7 m7 f7 e7 e8 hP7 => ⟨rfl, ?_⟩⟩
      have S4 : Same H2 G4 := ((q1.trans q2).trans q3).but m4 (g3.back (q1.trans q2))
      have S6 : Same H2 G6 := (S4.trans q5).trans q6
      have S7 : Same H2 G7 := S6.but m7 (g6.back (S4.trans q5))
      have hD7 := S7 _ _ h2
      refine ⟨_, hD7, by walk_at "sd", fun H8 m8 h8 => ⟨xs ++ [y], ?_, ?_, ?_⟩⟩
      · rw [List.map_append]
        exact h8
      · have ec : cuN (ms.take (i + 1)) = cuN (ms.take i) ++ [(m, none)] := by
          unfold cuN
          rw [take_snoc hm, List.map_append]
          rfl
        rw [ec]
        exact Paired.snoc (Paired.mapP c2 fun _ _ c => (c.same S7).put m8 hD7) (CueD.put ⟨dy, l', px, e7, e8, (neF f7 (S6 _ _ h2)).symm, hP7⟩ m8 hD7)
      · exact (s2.trans S7).but m8 hD
    rintro H2 ⟨xs, h2, c2, s2⟩
    have et : ms.take (ms.map V.int).length = ms := by
      rw [List.length_map, List.take_length]
    rw [et] at c2
    have cu : CuesIn K H2 xs (cuN ms) := ⟨Paired.mapP c2 fun _ _ c => c.cue, cuN_up r1, by unfold cuN; rw [List.length_map]; omega⟩
    have lc : (cuN ms).length ≤ 9 := by unfold cuN; rw [List.length_map]; exact l1
    obtain ⟨c, r, hcr⟩ : ∃ c r, cuN ms = c :: r := by
      cases ms with
      | nil => exact absurd rfl nn1
      | cons m r => exact ⟨_, _, rfl⟩
    clear c2
    generalize cuN ms = cs at *
    have lx : xs.length ≤ 9 := by rw [cu.at_.len]; exact lc
    have hS2 := s2.seq hS1
    clear h1 r1 b1 nn1 s1 f1 et
    walk_at "wks"
    rename_i q1 G1 g1 t1 e1 q2 G2 g2 t2 e2 q3 G3 g3 t3 e3 q4 G4 g4 t4 e4 q5 G5 g5 t5 e5 q6 G6 g6 t6 e6 q7 G7 g7 t7 e7 q8 G8 g8 t8 e8
    have T7 := t8
    have T6 := t7.trans T7
    have T5 := t6.trans T6
    have T4 := t5.trans T5
    have T3 := t4.trans T4
    have T2 := t3.trans T3
    have T1 := t2.trans T2
    have S8 := t1.trans T1
    have hbad : ∃ v : V, atI [V.non, V.ref q1, V.ref q2, V.ref q3, V.ref q5, V.ref q7] (mx / 9 % 6) = some v ∧ ∀ H', Same G8 H' → BadL K H' v := by
      have cuH : ∀ H', Same G8 H' → Paired (EltAt K H') (xs.map V.ref) (cs.map some) := fun H' s => elts (cu.same (S8.trans s)).at_
      rcases (by omega : mx / 9 % 6 = 0 ∨ mx / 9 % 6 = 1 ∨ mx / 9 % 6 = 2 ∨ mx / 9 % 6 = 3 ∨ mx / 9 % 6 = 4 ∨ mx / 9 % 6 = 5) with e | e | e | e | e | e <;> rw [e]
      · exact ⟨.non, rfl, fun H' s => .inl ⟨_, .base .non, kit_ty (by decide +kernel)⟩⟩
      · exact ⟨.ref q1, rfl, fun H' s => .inl ⟨_, .base (.tup (s _ _ (T1 _ _ e1))), kit_ty (by decide +kernel)⟩⟩
      · exact ⟨.ref q2, rfl, fun H' s => .inl ⟨_, .base (.dK (s _ _ (T2 _ _ e2))), kit_ty (by decide +kernel)⟩⟩
      · refine ⟨.ref q3, rfl, fun H' s => .inr ⟨q3, _, cs.map some ++ cs.map some, rfl, s _ _ (T3 _ _ e3), pair_app (cuH H' s) (cuH H' s), ?_⟩⟩
        rw [hcr]
        exact twice_bad (os := []) (c := c) (ps := r.map some)
      · exact ⟨.ref q5, rfl, fun H' s => .inr ⟨q5, _, cs.map some ++ [none], rfl, s _ _ (T5 _ _ e5), pair_app (cs := [V.non]) (ds := [none]) (.cons rfl .nil) (cuH H' s), good_none (xs := cs.map some) (ys := [])⟩⟩
      · refine ⟨.ref q7, rfl, fun H' s => .inr ⟨q7, _, (cs.map some ++ cs.map some).reverse, rfl, s _ _ (T7 _ _ e7), pair_rev (pair_app (cuH H' s) (cuH H' s)), ?_⟩⟩
        rw [List.reverse_append, hcr, List.map_cons, List.reverse_cons]
        exact twice_bad (os := (r.map some).reverse) (c := c) (ps := [])
    obtain ⟨vb, hvb, bad⟩ := hbad
    have hD8 := S8 _ _ h2
    have cu8 := cu.same S8
    have hS8 := S8.seq hS2
    clear cu T1 T2 T3 T4 T5 T6 T7 S8 g1 t1 e1 g2 t2 e2 g3 t3 e3 g4 t4 e4 g5 t5 e5 g6 t6 e6 g7 t7 e7 g8 h2 hS2 hS1 hcr
    refine ⟨q8, _, _, _, rfl, rfl, .of e8, hvb, ?_⟩
    clear t8 e8
    walk_at "wks"
    intro dA as ds H3 s3 f3 h3 d3 u3 l32 l82
    have hS3 := s3.seq hS8
    walk_at "wks"
    intro c1
    walk_at "wks"
    intro my my0 my1
    refine ⟨dA, as, ds, my, rfl, h3, d3, l32, l82, my0, fun fA fs fd H4 s4 h4 d4 nu lf2 lf84 => ?_⟩
    have S34 := s3.trans s4
    have lfs := d4.len
    walk_at "wks"
    refine ⟨⟨_, .of h4⟩, fun D2 hD2 => lcK_list (K := K) (a := fA) (xs := fs.map V.ref) hD2 (fun i H' => H' D2 = some (.lst (((fd.map (·.1)).take i).map V.int)) ∧ Same H4 H') (fun H' f s h => ⟨h, s⟩) (fun i H' _ q => .of (q.2 _ _ h4)) ?_ ?_⟩
    · rintro i x H5 hx ⟨h5, s5⟩
      obtain ⟨x, d, rfl, hdi, hxd⟩ := d4.at hx
      have hxd := s5 _ _ hxd
      obtain ⟨rr, er⟩ := d.2.head d.1
      rw [er] at hxd
      have hil := (List.getElem?_eq_some_iff.mp hdi).1
      refine ⟨rfl, ?_⟩
      walk_at "wks"
      refine ⟨_, h5, L2.szlt (by rw [List.length_map, List.length_take, List.length_map]; omega), fun H6 m6 h6 => ⟨?_, s5.but m6 hD2⟩⟩
      rw [take_snoc (x := d.1) (by rw [List.getElem?_map, hdi]; rfl), List.map_append]
      exact h6
    rintro H5 ⟨h5, s5⟩
    have e5 : (fd.map (·.1)).take (fs.map V.ref).length = fd.map (·.1) := by
      rw [List.length_map, lfs, List.take_of_length_le (Nat.le_of_eq (List.length_map _))]
    rw [e5] at h5
    have nl : 0 < (fd.map (·.1)).length := by
      rw [List.length_map]
      omega
    generalize fd.map (·.1) = tks at *
    walk_at "wks"
    intro mn _ _
    walk_at "wks"
    intro mz _ _
    walk_at "wks"
    intro mz2 _ _
    have hS5 := s5.seq (s4.seq hS3)
    walk_at "wks"
    rename_i tp H6 f6 s6 h6
    have hS6 := s6.seq hS5
    walk_at "wks"
    intro c2
    obtain ⟨tv, htv⟩ := at4 (a := 0) (b := mn) (c := mz) (d := mz2 + 1 + mx % 5000) (k := c2 % 4) (Int.emod_nonneg _ (by decide)) (Int.emod_lt_of_pos _ (by decide))
    have S46 := s5.trans s6
    have hD6 := S46 _ _ (S34 _ _ hD8)
    have h46 := S46 _ _ h4
    walk_at "wks"
    rename_i lc2 H7 x7 s7 h7 lf3 H8 x8 s8 h8 lk H9 x9 s9 h9
    have s69 := (s7.trans s8).trans s9
    have S9 := S34.trans (S46.trans s69)
    have cu9 := cu8.same S9
    have hD9 := S9 _ _ hD8
    have f9 := s69 _ _ h46
    have df9 := d4.same (S46.trans s69)
    have d9 := (s4.trans (S46.trans s69)) _ _ h3
    have dd9 := d3.same (s4.trans (S46.trans s69))
    have bad9 : ∀ H', Same H9 H' → BadL K H' vb := fun H' s => bad _ (S9.trans s)
    have k7 := (s8.trans s9) _ _ h7
    have k8 := s9 _ _ h8
    clear s69 S9 cu8 hD8 h46 d4 d3 bad h7 h8 s7 s8 s9 S46 S34 s3 s4 s5 s6 h3 h4 h5 h6 hS3 hS5 hS6 hS8 htv hvb x7 x8 x9 f6 f3 hD6
    refine for_range (lo := 0) (n := 2) (fun i σ' H' => ∃ v : Option V, σ' = [some (.ref a), some (.int mx), some (.ref mA), some (.ref D), some (vb), some (.ref dA), some (.ref fA), some (.ref D2), some (.ref tp), some (.int tv), some (.ref lk), v, none, none] ∧ Same H9 H') ⟨_, rfl, .refl _⟩ ?_ ?_
    · rintro i σ' H10 hi ⟨v, rfl, s10⟩
      walk_at "wks"
      refine ⟨0 + (i : Int), tv, .ref D, fA, fs, fd, [true, true, false, false], rfl, s10 _ _ f9, df9.same s10, by omega, .inl ⟨D, xs, cs, rfl, s10 _ _ hD9, cu9.same s10, by omega, .inr ⟨nu, rfl⟩⟩, fun p1 G1 t1 e1 => ?_⟩
      replace s10 := s10.trans t1
      walk_at "wks"
      rename_i l1 K1 g1 u1 a1
      refine ⟨.list ([true, true, false, false].map PyData.bool), .list ([true, true, false, false].map PyData.bool), .lst (.of (u1 _ _ e1)) (dp_bls [true, true, false, false]), .lst (.of a1) (dp_bls [true, true, false, false]), by decide +kernel, by decide +kernel, _, rfl, ?_⟩
      rw [SeqAt.eqv_refl _ (by decide +kernel)]
      refine iteF ?_
      replace s10 := s10.trans u1
      clear t1 e1 u1 a1 g1
      walk_at "wks"
      refine ⟨0 + (i : Int), tv, vb, fA, fs, fd, [true, false, true, false], rfl, s10 _ _ f9, df9.same s10, by omega, .inr ⟨fun H' s => bad9 H' (s10.trans s), rfl⟩, fun p2 G2 t2 e2 => ?_⟩
      replace s10 := s10.trans t2
      walk_at "wks"
      rename_i l2 K2 g2 u2 a2
      refine ⟨.list ([true, false, true, false].map PyData.bool), .list ([true, false, true, false].map PyData.bool), .lst (.of (u2 _ _ e2)) (dp_bls [true, false, true, false]), .lst (.of a2) (dp_bls [true, false, true, false]), by decide +kernel, by decide +kernel, _, rfl, ?_⟩
      rw [SeqAt.eqv_refl _ (by decide +kernel)]
      refine iteF ?_
      replace s10 := s10.trans u2
      clear t2 e2 u2 a2 g2
      walk_at "wks"
      refine ⟨0 + (i : Int), tv, vb, dA, as, ds, [true, false, true, false], rfl, s10 _ _ d9, dd9.same s10, by omega, .inr ⟨fun H' s => bad9 H' (s10.trans s), rfl⟩, fun p3 G3 t3 e3 => ?_⟩
      replace s10 := s10.trans t3
      walk_at "wks"
      rename_i l3 K3 g3 u3 a3
      refine ⟨.list ([true, false, true, false].map PyData.bool), .list ([true, false, true, false].map PyData.bool), .lst (.of (u3 _ _ e3)) (dp_bls [true, false, true, false]), .lst (.of a3) (dp_bls [true, false, true, false]), by decide +kernel, by decide +kernel, _, rfl, ?_⟩
      rw [SeqAt.eqv_refl _ (by decide +kernel)]
      refine iteF ?_
      replace s10 := s10.trans u3
      clear t3 e3 u3 a3 g3
      walk_at "wks"
      refine ⟨0 + (i : Int), tv, .ref D, dA, as, ds, [], rfl, s10 _ _ d9, dd9.same s10, by omega, .inl ⟨D, xs, cs, rfl, s10 _ _ hD9, cu9.same s10, by omega, .inl ⟨u3, rfl⟩⟩, fun p4 G4 t4 e4 => ?_⟩
      replace s10 := s10.trans t4
      walk_at "wks"
      rename_i l4 K4 g4 u4 a4
      refine ⟨.list ([].map PyData.bool), .list ([].map PyData.bool), .lst (.of (u4 _ _ e4)) (dp_bls []), .lst (.of a4) (dp_bls []), by decide +kernel, by decide +kernel, _, rfl, ?_⟩
      rw [SeqAt.eqv_refl _ (by decide +kernel)]
      refine iteF ?_
      replace s10 := s10.trans u4
      clear t4 e4 u4 a4 g4
      exact ⟨_, rfl, s10⟩
    · rintro σ' H10 ⟨v, rfl, s10⟩
      walk_at "wks"
      rename_i l5 H11 f11 s11 h11
      have S := s10.trans s11
      refine ⟨l5, lk, _, _, rfl, rfl, .of h11, .of (S _ _ h9), .cons (.inr ⟨D, lc2, _, rfl, rfl, .of (S _ _ hD9), .of (S _ _ k7), plain_refs xs⟩) (.cons (.inr ⟨fA, lf3, _, rfl, rfl, .of (S _ _ f9), .of (S _ _ k8), plain_refs fs⟩) .nil), ?_⟩
      exact k _
theorem law_facts {fa : Addr} (T : Txt K mg) (hfa : mg "law" = some (.ref fa)) :
    ∃ fd : FuncData, (∀ (s : Shared) (v : Value), BindsTo s fd ⟨[v], []⟩ [("_law_script", v)]) ∧ ∀ base : Heap, K.In base → base.Ns mainGlobals mg → FnOk P w K mg base CX0 9 fa fd ["_law_script"] (spLaw K) := by
  have e := hfa.symm.trans (glo_law T)
  cases e
  obtain ⟨fd, _, F⟩ := ok_law (P := P) (w := w) (base := default) T
  refine ⟨fd, fun s v => FunD.bindsA (ps := ["_law_script"]) F (fun _ _ _ _ _ _ us hl => match us, hl with | [_], _ => rfl) s [v] rfl, fun base _ _ => ?_⟩
  obtain ⟨fd', G, F'⟩ := ok_law (P := P) (w := w) (base := base) T
  have q : fd' = fd := F'.fd_eq F
  rw [← q]
  exact G


end

abbrev R : PySem.W.OpenRow := PySem.W.OpenLaw.row PySem.Challenge.rw_lampcues_k40_refused_deeds
abbrev hk : PySem.W.Hook := L2.hookY 6 fa fn exB
def ob (s : PySem.W.SharedT) : He.AlD × Bool := L2.obsY 6 fa fn exB (HandSHeadRun.getT s)
theorem ob_eq (s : PySem.W.SharedT) : ob s = hk.obs s.abs := L2.obsY_eq (HandSHeadRun.getT_eq s)
def loose0 : List PySem.Str := ["_wall", "LampError", "NoTime", "NoSlot", "NoWorth", "NoPart", "NoCue", "NoList", "Late", "MOST_times", "is_time", "LETTERS", "SIDES", "MOST_cues", "is_amid", "is_lamp", "is_slot", "is_worth", "look_at_slots", "look_at_worths", "Part", "are_parts", "Cue", "cue_list", "good_number", "put_in_look", "cue_at", "carried", "shown", "above"]
def loose1 : List PySem.Str := ["below", "March", "Onward", "Backward", "Straight", "march_of", "Walk", "look_at_ticks", "rows_of", "stand", "Course", "BACK", "Aim", "course_by", "slots_of", "told", "_law_cell_at", "_law_whole", "_law_mixed", "_law_time", "_law_numbers", "_law_deeds", "_law_fallen", "_law_truths"]
def loose : List PySem.Str := loose0 ++ loose1
theorem run (w : World) : HandSHeadRun.RunEq R (PySem.W.view R.prog [62]) hk ob 9000 loose w := by
  intro os
  kernel_rfl
end G94
open PySem PySem.W PySem.Calls PyProof.Rows
theorem PySem.Challenge.cw_lampcues_k40_refused_deeds_holds : PySem.Challenge.rw_lampcues_k40_refused_deeds.Holds := by
  w_on; o_law
  refine HandSHeadRun.head_any (r := OpenLaw.row PySem.Challenge.rw_lampcues_k40_refused_deeds) (q := view (OpenLaw.row PySem.Challenge.rw_lampcues_k40_refused_deeds).prog [62]) (H := G94.hk) (ob := G94.ob) (M := 9000) (loose := G94.loose) (d := HandSHeadRun.topDef (OpenLaw.row PySem.Challenge.rw_lampcues_k40_refused_deeds).prog 62) (kwd := []) G94.ob_eq
    (by kernel_rfl) (fun s => by kernel_rfl) G94.run (by kernel_rfl) (by kernel_rfl) (by kernel_rfl) (by rfl) (by first | assumption | decide +kernel) (by decide +kernel) ⟨rfl, rfl, rfl, rfl, rfl, by decide +kernel⟩ ?hw ?hc
  case hw => w_witness2
  case hc =>
    refine L2.walk_ofEB (l := PySem.Challenge.rw_lampcues_k40_refused_deeds) (n := 63) (k := 9) (x := "_law_script") (CX := L2.CX0) rfl (by decide) (by kernel_rfl) ⟨rfl, by decide, by decide⟩ ?F (fun _ _ _ _ z => z)
    intro w mg fa h Y G hmg0
    obtain ⟨K, KX, c, cx⟩ := Y
    have hmg : mg ("law" : PySem.Str) = some (.ref fa) := by
      have e : (HandSHeadRun.topDef (OpenLaw.row PySem.Challenge.rw_lampcues_k40_refused_deeds).prog 62).name = ("law" : PySem.Str) := by kernel_rfl
      rw [← e]
      exact hmg0
    obtain ⟨fd, hb, hF⟩ := G94.law_facts (P := (PySem.Challenge.rw_lampcues_k40_refused_deeds).prog) (w := w) ⟨c, ⟨h, KX, G⟩, cx⟩ hmg
    exact ⟨K, fd, G94.spLaw K, KX, hb, fun H a ns hl hb hH hS => ⟨a, ns, rfl, hS, hl, hb, hH, fun _ => rfl⟩, hF⟩
