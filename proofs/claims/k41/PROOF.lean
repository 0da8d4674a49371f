import PyProof.Rows.All
import Wide.All
import OpenK.AllK
import Wide.FinOn
import KE.KStateDown
import HandS.ForMost
import HandS.Exc
import HandS.TryOnly
import HandS.ExcOwn
import HandS.WordsExc
import HandS.Defaults
import HandS.Wide
import HandS.IsInst
import HandS.ExcIs
import HandS.EndBits
import HandS.TupLe
import HandS.Rev
import HandS.Codes
import HandS.MakeKw
import HandS.StrMore
import HandS.Head0
import HandS.Head1
import HandS.Head2
import HandS.HeadEnd
import HandS.HeadHook1
import HandS.HeadHook2
import HandS.More
import HandS.SortKw
import KE.KMinKey
import HandS.SetFor
import HandS.Strs
import PySem.Challenge.RW_lampcues_k41_numbers_come_to
set_option pp.maxSteps 900
set_option Elab.async false
set_option linter.all false
set_option maxRecDepth 100000
set_option maxHeartbeats 4000000
namespace L2
open PySem PySem.Spec PyProof.Rows
/-! ### own rules, own words -/
/-- a law's end by facts, with the script's bits and the only tracked thing told -/
theorem walk_ofEB {l : PySem.W.OpenLaw} {n k : Nat} {q : Program} {loose : List Str} {XP : (Str → Option Value) → Heap → Prop} {YP : World → Heap → Prop} {d : DefRec} {CX : CXT} {x : Str}
    (hn : l.most = some n) (hn2 : n ≤ sizeLine) (hdf : d.params.defaults = []) (hr : Room k callerA)
    (F : ∀ (w : World) (mg : Str → Option Value) (fa : Addr) (h : Heap), YP w h → h.Ns mainGlobals mg → mg d.name = some (.ref fa) →
      ∃ (K : PySem.W.Frag) (fd : FuncData) (sp : Sp), K.In h ∧ (∀ (s : Shared) (u : Value), BindsTo s fd ⟨[u], []⟩ [(x, u)]) ∧
        (∀ (H : Hp) (a : Addr) (ns : List Int), ns.length ≤ n → (∀ z ∈ ns, Builtin.Int.intBits z ≤ 1048576) → Only H → SqL K H a (ns.map V.int) → sp [.ref a] H (fun v _ => v = .bl true) fun _ _ _ => False) ∧
        ∀ base : Heap, K.In base → base.Ns mainGlobals mg → FnOk l.prog w K mg base CX k fa fd [x] sp)
    (hCX : ∀ (H : Hp) (s : Shared) (e : Value) (s' : Shared), CX [] H s (fun _ _ _ => False) e s' → False) :
    PySem.W.WalkO q loose XP YP l.row.toRowW d [] (fun f vs => PySem.call f vs) := by
  refine Att.attach_callB hn hdf fun w s₀ s₁ mg mb fa o pm cd doc a vs ns G Y ho hd hcd hmg hobj hints hlen hbits hg => ?_
  obtain ⟨K, fd, sp, KX, hb, hsp, hF⟩ := F w mg fa _ Y G.T.g hmg
  exact law_call KX G.T.g G.T.b G.T.builtins G.T.nolimit hg hobj hints (Nat.le_trans hlen hn2) hr hF hb (fun H hO hS => hsp H a ns hlen hbits hO hS) fun H e s' => hCX H s₁ e s'
section
variable {X : Cx}
/-- a written power -/
theorem pe_powC {i j v : Int} {a b : Nat} {p1 p2 pos : Pos} (e : i ^ j.toNat = v) (h : 0 ≤ j ∧ j ≤ 1000000 ∧ i.natAbs < 2 ^ 64) : PE X (.BinOp (.Constant (.int i) a p1) .Pow (.Constant (.int j) b p2) pos) (tC (.int v)) := by
  subst e
  refine ⟨fun pins s σ H Q I q => ?_⟩
  exact (pe_op (X := X) op_pow pe_int pe_int).run pins s σ H Q I ⟨i, j, rfl, rfl, h, q⟩
/-- a written negative number -/
theorem pe_negC {i : Int} {a : Nat} {p1 pos : Pos} : PE X (.UnaryOp .USub (.Constant (.int i) a p1) pos) (tC (.int (-i))) := by
  refine ⟨fun pins s σ H Q I q => ?_⟩
  exact (pe_un (X := X) un_neg pe_int).run pins s σ H Q I ⟨i, rfl, q⟩
end
theorem iteD {c A B : Prop} [Decidable c] (h1 : c → A) (h2 : ¬ c → B) : if decide c = true then A else B := by
  by_cases h : c
  · rw [if_pos (decide_eq_true h)]
    exact h1 h
  · rw [if_neg (by rw [decide_eq_false h]; exact Bool.false_ne_true)]
    exact h2 h
theorem iteND {c A B : Prop} [Decidable c] (h1 : ¬ c → A) (h2 : c → B) : if (!decide c) = true then A else B := by
  by_cases h : c
  · rw [decide_eq_true h]
    exact iteF (h2 h)
  · rw [decide_eq_false h]
    exact iteT (h1 h)
theorem iteV {a b : Int} {A B : Prop} (h1 : a = b → A) (h2 : a ≠ b → B) : if decide (V.int a = V.int b) = true then A else B :=
  iteD (fun e => h1 (V.int.inj e)) fun e => h2 fun q => e (congrArg V.int q)
theorem iteNV {a b : Int} {A B : Prop} (h1 : a ≠ b → A) (h2 : a = b → B) : if (!decide (V.int a = V.int b)) = true then A else B :=
  iteND (fun e => h1 fun q => e (congrArg V.int q)) fun e => h2 (V.int.inj e)
theorem iteB {b : Bool} {A B : Prop} (h1 : b = true → A) (h2 : b = false → B) : if b = true then A else B := by
  cases b with
  | true => exact iteT (h1 rfl)
  | false => exact iteF (h2 rfl)
theorem iteDT {c A B : Prop} [Decidable c] (h : c) (h1 : A) : if decide c = true then A else B := iteD (fun _ => h1) fun q => absurd h q
theorem iteDF {c A B : Prop} [Decidable c] (h : ¬ c) (h1 : B) : if decide c = true then A else B := iteD (fun q => absurd q h) fun _ => h1
theorem iteVT {a b : Int} {A B : Prop} (h : a = b) (h1 : A) : if decide (V.int a = V.int b) = true then A else B := iteV (fun _ => h1) fun q => absurd h q
theorem iteVF {a b : Int} {A B : Prop} (h : a ≠ b) (h1 : B) : if decide (V.int a = V.int b) = true then A else B := iteV (fun q => absurd q h) fun _ => h1
theorem iteNVF {a b : Int} {A B : Prop} (h : a = b) (h1 : B) : if (!decide (V.int a = V.int b)) = true then A else B := iteNV (fun q => absurd h q) fun _ => h1
theorem yes_lc {σ : St} {H : Hp} {A B : Hp → Prop} (h : A H) : tYes σ H (fun b H3 => if b = true then A H3 else B H3) := by
  show if true = true then A H else B H
  rw [if_pos rfl]
  exact h
theorem qT {Q : VK} {H : Hp} {c : Prop} [Decidable c] (h : c) (k : Q (.bl true) H) : Q (.bl (decide c)) H := by
  rw [decide_eq_true h]
  exact k
theorem qF {Q : VK} {H : Hp} {c : Prop} [Decidable c] (h : ¬ c) (k : Q (.bl false) H) : Q (.bl (decide c)) H := by
  rw [decide_eq_false h]
  exact k
theorem iteS {a b : List Nat} {z : Str} {A B : Prop} (e : z = SX.S b) (h1 : a = b → A) (h2 : a ≠ b → B) : if decide (V.str (SX.S a) = V.str z) = true then A else B := by
  subst e
  exact iteD (fun q => h1 (SX.S_inj (V.str.inj q))) fun q => h2 fun r => q (congrArg (fun l => V.str (SX.S l)) r)
theorem iteNSt {a b : List Nat} {z : Str} {A B : Prop} (e : z = SX.S b) (h1 : a ≠ b → A) (h2 : a = b → B) : if (!decide (V.str (SX.S a) = V.str z)) = true then A else B := by
  subst e
  exact iteND (fun q => h1 fun r => q (congrArg (fun l => V.str (SX.S l)) r)) fun q => h2 (SX.S_inj (V.str.inj q))
theorem cut_ints (ns : List Int) (lo hi : Option Int) : ∃ ms : List Int, cutV (ns.map V.int) lo hi = ms.map V.int ∧ ms.length ≤ ns.length ∧ ∀ z ∈ ms, z ∈ ns := by
  refine ⟨(ns.drop (HT.sIx (ns.map V.int).length 0 lo)).take (HT.sIx (ns.map V.int).length (ns.map V.int).length hi - HT.sIx (ns.map V.int).length 0 lo), ?_, ?_, ?_⟩
  · unfold cutV
    rw [List.map_take, List.map_drop]
  · rw [List.length_take, List.length_drop]
    omega
  · intro z hz
    exact List.mem_of_mem_drop (List.mem_of_mem_take hz)
theorem int_at {ns : List Int} {i : Nat} {y : V} (h : (ns.map V.int)[i]? = some y) : ∃ z, y = V.int z ∧ ns[i]? = some z ∧ i < ns.length := by
  rw [List.getElem?_map] at h
  cases e : ns[i]? with
  | none =>
    rw [e] at h
    cases h
  | some z =>
    rw [e] at h
    exact ⟨z, (Option.some.inj h).symm, rfl, (List.getElem?_eq_some_iff.mp e).1⟩
theorem atI_lt {xs : List V} {k : Int} (h0 : 0 ≤ k) (h1 : k < xs.length) : ∃ v, atI xs k = some v ∧ xs[k.toNat]? = some v := by
  have hl : k.toNat < xs.length := by omega
  refine ⟨xs[k.toNat], ?_, List.getElem?_eq_getElem hl⟩
  obtain ⟨n, rfl⟩ : ∃ n : Nat, k = n := ⟨k.toNat, by omega⟩
  exact atI_nat (List.getElem?_eq_getElem hl)
theorem at2 {a b k : Int} (h0 : 0 ≤ k) (h1 : k < 2) : ∃ v, atI [V.int a, V.int b] k = some (V.int v) ∧ ((k = 0 ∧ v = a) ∨ (k = 1 ∧ v = b)) := by
  rcases (by omega : k = 0 ∨ k = 1) with rfl | rfl
  · exact ⟨a, rfl, .inl ⟨rfl, rfl⟩⟩
  · exact ⟨b, rfl, .inr ⟨rfl, rfl⟩⟩
theorem at3 {a b c k : Int} (h0 : 0 ≤ k) (h1 : k < 3) : ∃ v, atI [V.int a, V.int b, V.int c] k = some (V.int v) ∧ ((k = 0 ∧ v = a) ∨ (k = 1 ∧ v = b) ∨ (k = 2 ∧ v = c)) := by
  rcases (by omega : k = 0 ∨ k = 1 ∨ k = 2) with rfl | rfl | rfl
  · exact ⟨a, rfl, .inl ⟨rfl, rfl⟩⟩
  · exact ⟨b, rfl, .inr (.inl ⟨rfl, rfl⟩)⟩
  · exact ⟨c, rfl, .inr (.inr ⟨rfl, rfl⟩)⟩
/-- a call that writes all parameters, the last ones by name -/
theorem kb_all {K : PySem.W.Frag} {x qual : Str} {params : Arguments} {body : List Stmt} {scope : Scope} {dvs : List V} {kws : List (Str × V)} {f : Addr} {fd : FuncData} {ps : List Str} (F : FunD K x qual params body scope dvs kws f fd) (n : Nat) (ks : List Str) (hd : dvs ≠ [])
    (h : ∀ (T : Addr) (kV doc pm : Value) (an : Option Addr) (cdv ct : Value) (us its ws : List Value), us.length = n → its.length = dvs.length → ws.length = ks.length →
      ∃ k, bindArgs (PySem.W.fnOf x qual params body scope (.ref T) kV doc pm an cdv ct) ⟨us, ks.zip ws⟩ = seqItems? (.ref T) >>= k ∧ k (some its.toArray) = pure (ps.zip (us ++ ws))) : KBn K fd ps n ks (fun us ws => us ++ ws) (fun vs zs => vs ++ zs) := by
  obtain ⟨oc, od, dV, kV, doc, pm, an, cdv, ct, osl, rfl, lk, hcd, hD, _⟩ := F.ex
  rcases hD with ⟨e, _⟩ | ⟨_, T, o, its, m, rfl, lT, oT, rT⟩
  · exact absurd e hd
  · refine ⟨fun s us ws X h1 h2 => ?_, fun r1 r2 => r1.append r2⟩
    obtain ⟨k, e1, e2⟩ := h T kV doc pm an cdv ct us its ws h1 rT.length.symm h2
    refine BindsTo.of_looks fun M => ?_
    rw [e1]
    exact looks_items X lT oT (.of_pure e2)
theorem FunD.fd_eq {K : PySem.W.Frag} {x qual : Str} {params : Arguments} {body : List Stmt} {scope : Scope} {dvs : List V} {kws : List (Str × V)} {f : Addr} {fd fd' : FuncData} (F : FunD K x qual params body scope dvs kws f fd) (F' : FunD K x qual params body scope dvs kws f fd') : fd = fd' := by
  obtain ⟨_, _, _, _, _, _, _, _, _, _, _, l, _⟩ := F.ex
  obtain ⟨_, _, _, _, _, _, _, _, _, _, _, l', _⟩ := F'.ex
  rw [l] at l'
  simp only [Option.some.injEq, Obj.mk.injEq, Data.func.injEq] at l'
  exact l'.2.2.1
theorem at4 {a b c d k : Int} (h0 : 0 ≤ k) (h1 : k < 4) : ∃ v, atI ([a, b, c, d].map V.int) k = some (V.int v) := by
  rcases (by omega : k = 0 ∨ k = 1 ∨ k = 2 ∨ k = 3) with rfl | rfl | rfl | rfl
  · exact ⟨a, rfl⟩
  · exact ⟨b, rfl⟩
  · exact ⟨c, rfl⟩
  · exact ⟨d, rfl⟩
theorem ints_last {es : List Int} {v : Int} (h : es.getLast? = some v) : atI (es.map V.int) (-1) = some (V.int v) := by
  obtain ⟨r, e⟩ := List.getLast?_eq_some_iff.mp h
  rw [e, List.map_append]
  exact atI_last _ _
/-- a loop over the signs of a text -/
theorem for_text {l : List Nat} {g : TG} {tb : TS} {D : Ends} {σ : St} {H : Hp} (Pv : Nat → St → Hp → Prop) (h0 : Pv 0 σ H)
    (hs : ∀ (i : Nat) (c : Nat) (σ : St) (H : Hp), l[i]? = some c → Pv i σ H → g (.str ⟨#[c]⟩) σ H (fun σ2 H2 => tb { D with nx := Pv (i + 1), ct := Pv (i + 1), bk := D.nx } σ2 H2))
    (hd : ∀ σ H, Pv l.length σ H → D.nx σ H) :
    ∃ W : Nat → Nat → St → Hp → Prop, (∃ m, W 0 m σ H) ∧ ∀ i m σ H, W i m σ H → ((Its (SX.S l)).stop i H ∧ D.nx σ H) ∨
      ((Its (SX.S l)).go i H ∧ ∃ N : St → Hp → Prop, (∀ σ' H', N σ' H' → ∃ m', m' < m ∧ W (i + 1) m' σ' H') ∧ ∀ v H', (Its (SX.S l)).yld i H v H' → g v σ H' fun σ2 H2 => tb { D with nx := N, ct := N, bk := D.nx } σ2 H2) := by
  refine ⟨fun i m σ H => m = l.length - i ∧ i ≤ l.length ∧ Pv i σ H, ⟨_, rfl, Nat.zero_le _, h0⟩, ?_⟩
  intro i m σ1 H1 hw
  obtain ⟨em, hi, p⟩ := hw
  have es : (SX.S l).cps.size = l.length := by simp
  rcases Nat.lt_or_ge i l.length with hlt | hge
  · right
    refine ⟨(by show i < (SX.S l).cps.size; omega), Pv (i + 1), fun σ' H' p' => ⟨l.length - (i + 1), by omega, rfl, by omega, p'⟩, ?_⟩
    intro v H' hy
    obtain ⟨e, c, hc, ev⟩ := hy
    rw [e, ev]
    refine hs i c σ1 H1 ?_ p
    have h2 : (SX.S l).cps[i]? = l[i]? := by simp
    rw [← h2]
    exact hc
  · left
    refine ⟨(by show (SX.S l).cps.size ≤ i; omega), hd σ1 H1 ?_⟩
    have e : i = l.length := by omega
    rw [← e]
    exact p
theorem atI_head {α : Type} (c : α) (r : List α) : atI (c :: r) 0 = some c := by
  show atI (c :: r) ((0 : Nat) : Int) = some c
  exact atI_nat rfl
theorem small_size {n : Nat} (h : n ≤ 100000) : n ≤ sizeLine := Nat.le_trans h (by decide)
theorem Same.new {H H' : Hp} {p : Addr} {o : HO} (e : Same H H') (h : H' p = none) : Same H (upd H' p o) := fun a u q => by
  rw [upd_ne (ne_of_none (e a u q) h)]
  exact e a u q
theorem Same.mut {H H' : Hp} {p : Addr} {o : HO} (e : Same H H') (h : H p = none) : Same H (upd H' p o) := fun a u q => by
  rw [upd_ne (ne_of_none q h)]
  exact e a u q
/-- o.m(e, .., k = v, ..) -/
def tMethN (C : Addr) (m : Str) (n j : Nat) (sp : Sp) (gV : List V → List V → List V) (E : XK) (ta : TE) (t tk : TA) : TE := fun σ H Q => ta σ H fun x H1 => ∃ a dx fs, x = .ref a ∧ H1 a = some (.ins C dx fs) ∧ fs.lookup m = none ∧
  t σ H1 fun vs H2 => tk σ H2 fun zs H3 => vs.length = n ∧ zs.length = j ∧ sp (gV (x :: vs) zs) H3 Q E
theorem pe_methN {X : Cx} {CX : CXT} {k n : Nat} {f C : Addr} {fd : FuncData} {ps ks : List Str} {sp : Sp} {E : XK} {m : Str} {o e : Expr} {es : List Expr} {kws : List Keyword} {apos pos : Pos} {ta : TE} {t tk : TA} {g : List Value → List Value → List Value} {gV : List V → List V → List V} {pl : Sem Bool}
    (he : PE X o ta) (c : Cls X.K C) (hm : Meth X.K C m f) (F : FnOk X.prog X.w X.K X.mg X.base CX k f fd ps sp) (hr : Room k X.A) (hb : KBn X.K fd ps (n + 1) ks g gV) (hx : Passes CX X E) (ha : PA X (e :: es) t) (hkw : PK X kws tk)
    (hall : (backToKw pos (keywordEach kws X.env)).all (·.1.isSome) = true := by rfl)
    (hks : (backToKw pos (keywordEach kws X.env)).filterMap (·.1) = ks := by rfl)
    (hst : starEach (e :: es) X.env = (false, eval e X.env) :: starEach es X.env := by rfl)
    (hpl : ((backTo pos (starEach (e :: es) X.env)).any (·.1) || (backToKw pos (keywordEach kws X.env)).any (·.1.isNone)) = false := by rfl)
    (ht : eval (.Call (.Attribute o m apos) (e :: es) kws pos) X.env = (do
      let ov ← eval o X.env
      standAt apos.atName
      let (f, first) ← holding [ov] (getMethod ov m pl)
      callWith pos f first (backTo pos (starEach (e :: es) X.env)) (backToKw pos (keywordEach kws X.env))) := by rfl) :
    PE X (.Call (.Attribute o m apos) (e :: es) kws pos) (tMethN C m n ks.length sp gV E ta t tk) := by
  constructor
  intro pins s σ H Q I hh
  apply PySem.W.methodCall_KW (pl := pl) (he := ht)
  apply thn (he.run pins s σ H _ I hh)
  rintro u s1 ⟨x, H1, I1, rx, a, dx, fs, rfl, ea, l, q⟩
  obtain rfl : u = Value.ref a := rx
  apply getmeth_ok I1 ea c hm l
  apply PySem.W.callWith_KW (first := [.ref a]) (h₀ := X.base) I.ok.mod.kin hm.kp hall (hplain := hpl) (he := hst)
  apply thn (ha.run pos pins s1 σ H1 _ I1 q)
  rintro us s2 ⟨vs, H2, I2, r, q2⟩
  apply thn (hkw.run pos pins s2 σ H2 _ I2 q2)
  rintro ws s3 ⟨zs, H3, I3, rz, l1, l2, q3⟩
  refine ⟨I3.kIn, ?_⟩
  rw [hks]
  exact run_fnN (us := .ref a :: us) (vs := .ref a :: vs) F hr hb hx I3 (.cons rfl r) rz (congrArg Nat.succ l1) l2 q3
theorem updN {H : Hp} {a b : Addr} {o u : HO} (h : b ≠ a) (e : H b = some u) : upd H a o b = some u := (upd_ne h).trans e
theorem neN {H : Hp} {a b : Addr} {u : HO} (h' : H b = none) (h : H a = some u) : a ≠ b := ne_of_none h h'
theorem neN2 {H : Hp} {a b : Addr} {u : HO} (h' : H a = none) (h : H b = some u) : a ≠ b := (ne_of_none h h').symm
theorem Same.at {H H' : Hp} {a : Addr} {u : HO} (s : Same H H') (e : H a = some u) : H' a = some u := s a u e
theorem Same.fresh {H H' : Hp} {a : Addr} (s : Same H H') (e : H' a = none) : H a = none := by
  cases h : H a with
  | none => rfl
  | some u =>
    rw [s a u h] at e
    cases e
theorem freshS {H H' : Hp} {a : Addr} (e : H' a = none) (s : Same H H') : H a = none := s.fresh e
/-! ### a head that asks one more thing of the written part -/
def obsY (n : Nat) (fa : List He.Fa) (fn : List He.DefD) (ex : PySem.W.Frag → Bool) (g : Addr → Option Obj) : He.AlD × Bool := (He.obsDG n fa fn g, ex (He.frG g (He.asD g n)))
def hookY (n : Nat) (fa : List He.Fa) (fn : List He.DefD) (ex : PySem.W.Frag → Bool) : PySem.W.Hook where
  α := He.AlD × Bool
  obs := fun s => obsY n fa fn ex s.heap.get?
  val := fun _ => (He.valD fn, true)
  says := fun _ h => ∃ K : PySem.W.Frag, K.In h ∧ He.SaysD fa fn K ∧ ex K = true
  of := fun _ _ e => ⟨_, He.frG_in, congrArg Prod.fst e, congrArg Prod.snd e⟩
  keeps := fun _ _ _ ⟨K, hK, c⟩ k => ⟨K, PySem.W.Frag.In.keeps hK k, c⟩
theorem obsY_eq {n : Nat} {fa : List He.Fa} {fn : List He.DefD} {ex : PySem.W.Frag → Bool} {g : Addr → Option Obj} {s : Shared} (h : ∀ a, g a = s.heap.get? a) : obsY n fa fn ex g = (hookY n fa fn ex).obs s := by
  have e : g = s.heap.get? := funext h
  rw [e]
  rfl
/-! ### what a class of errors must say, as one Bool -/
def excB (K : PySem.W.Frag) (x : Str) : Bool :=
  decide (PySem.W.findIn K (.ref (He.ga K x)) "__getattribute__" = some (some (.builtin "BaseException.__getattribute__"))) && (decide (PySem.W.findIn K (.ref (He.ga K x)) "__getattr__" = some none) &&
  (decide (PySem.W.subIn K (.ref (He.ga K x)) (.type "BaseException") = some true) && (PySem.W.hasDictIn K (He.ga K x) && (decide (PySem.W.findIn K (.ref (He.ga K x)) "__class__" = some (some (.builtin "object.__class__"))) &&
  (decide (PySem.W.specialIn K (.builtin "object.__class__") "__get__" = some (some (.builtin "getset_descriptor.__get__"))) && (decide (PySem.W.takesIn K (.builtin "object.__class__") = some true) && decide (PySem.W.mroIn K (He.ga K x) (.type "object") = some true)))))))
theorem excB_ok {K : PySem.W.Frag} {x : Str} (h : excB K x = true) : ExcC K (He.ga K x) := by
  obtain ⟨h1, h⟩ := He.ba h
  obtain ⟨h2, h⟩ := He.ba h
  obtain ⟨h3, h⟩ := He.ba h
  obtain ⟨h4, h⟩ := He.ba h
  obtain ⟨h5, h⟩ := He.ba h
  obtain ⟨h6, h⟩ := He.ba h
  obtain ⟨h7, h8⟩ := He.ba h
  exact ⟨of_decide_eq_true h1, of_decide_eq_true h2, of_decide_eq_true h3, h4, of_decide_eq_true h5, of_decide_eq_true h6, of_decide_eq_true h7, of_decide_eq_true h8⟩
/-- isinstance of what a suite holds, its class told by the reading -/
def rIsX (K : PySem.W.Frag) (cls : Value) (dc : Option Addr) (a : Addr) : List V → Hp → VK → Prop := fun xs H Q => ∃ D, cls = .ref D ∧ dc = none ∧ ExcC K D ∧ rIsE K D a xs H Q
theorem call_isX {X : Cx} {a : Addr} {cls : Value} {dc : Option Addr} {oe : Obj} {pn : List (Addr × Obj)} (hz : Zc cls dc oe) (hf : ∃ vs, oe.data = .fields vs) : CallR (X.suite a ((a, oe) :: pn)) (.builtin "isinstance") (rIsX X.K cls dc a) := by
  intro pins s σ H xs us Q I r h
  obtain ⟨D, e1, e2, C, q⟩ := h
  subst e1 e2
  exact call_isE C hz hf pins s σ H xs us Q I r q
end L2
/-! ### rules whose readings name the heap behind them -/
namespace L2
open PySem PySem.Spec PyProof.Rows
def Fr (H : Hp) (p : Addr) : Prop := H p = none
/-- all but a stays -/
def But (a : Addr) (H H' : Hp) : Prop := ∀ b u, b ≠ a → H b = some u → H' b = some u
theorem But.up {H : Hp} {a : Addr} {o : HO} : But a H (upd H a o) := fun b u n e => updN n e
theorem But.at {H H' : Hp} {a b : Addr} {u : HO} (m : But a H H') (n : b ≠ a) (e : H b = some u) : H' b = some u := m b u n e
theorem But.kind {H H' : Hp} {a b : Addr} {o u : HO} (m : But a H H') (h : H a = some o) (e : H b = some u) (d : u ≠ o) : H' b = some u := m b u (ne_of e h d) e
theorem But.trans {H H1 H' : Hp} {a : Addr} (m : But a H H1) (n : But a H1 H') : But a H H' := fun b u h e => n b u h (m b u h e)
theorem But.same {H H1 H' : Hp} {a : Addr} (m : But a H H1) (s : Same H1 H') : But a H H' := fun b u h e => s _ _ (m b u h e)
theorem But.before {H H1 H' : Hp} {a : Addr} (m : But a H1 H') (s : Same H H1) : But a H H' := fun b u h e => m b u h (s _ _ e)
theorem Same.thenBut {H H1 H' : Hp} {a : Addr} (s : Same H H1) (m : But a H1 H') : But a H H' := fun b u h e => m b u h (s _ _ e)
theorem Same.but {H H1 H' : Hp} {a : Addr} (s : Same H H1) (m : But a H1 H') (f : Fr H a) : Same H H' := fun b u e => m b u (ne_of_none e f) (s b u e)
/-- all but a and c stays -/
def But2 (a c : Addr) (H H' : Hp) : Prop := ∀ b u, b ≠ a → b ≠ c → H b = some u → H' b = some u
theorem But2.at {H H' : Hp} {a c b : Addr} {u : HO} (m : But2 a c H H') (n1 : b ≠ a) (n2 : b ≠ c) (e : H b = some u) : H' b = some u := m b u n1 n2 e
theorem But2.kind {H H' : Hp} {a c b : Addr} {o o' u : HO} (m : But2 a c H H') (h : H a = some o) (h' : H c = some o') (e : H b = some u) (d : u ≠ o) (d' : u ≠ o') : H' b = some u := m b u (ne_of e h d) (ne_of e h' d') e
theorem But2.refl {H : Hp} {a c : Addr} : But2 a c H H := fun _ _ _ _ e => e
theorem But.two {H H' : Hp} {a c : Addr} (m : But a H H') : But2 a c H H' := fun b u n _ e => m b u n e
theorem But.two' {H H' : Hp} {a c : Addr} (m : But a H H') : But2 c a H H' := fun b u _ n e => m b u n e
theorem Same.two {H H' : Hp} {a c : Addr} (s : Same H H') : But2 a c H H' := fun b u _ _ e => s b u e
theorem But2.trans {H H1 H' : Hp} {a c : Addr} (m : But2 a c H H1) (n : But2 a c H1 H') : But2 a c H H' := fun b u h1 h2 e => n b u h1 h2 (m b u h1 h2 e)
theorem But2.same {H0 H H' : Hp} {a c : Addr} (m : But2 a c H H') (s : Same H0 H) (f : Fr H0 a) (g : Fr H0 c) : Same H0 H' := fun b u e => m b u (ne_of_none e f) (ne_of_none e g) (s _ _ e)
theorem neF {H : Hp} {a b : Addr} {u : HO} (f : Fr H b) (e : H a = some u) : a ≠ b := ne_of_none e f
theorem neF2 {H : Hp} {a b : Addr} {u : HO} (f : Fr H a) (e : H b = some u) : a ≠ b := (ne_of_none e f).symm
theorem Fr.back {H H' : Hp} {p : Addr} (f : Fr H' p) (s : Same H H') : Fr H p := s.fresh f
/-- a new object -/
def New (o : HO) (H : Hp) (Q : VK) : Prop := ∀ (p : Addr) (H' : Hp), Fr H p → Same H H' → H' p = some o → Q (.ref p) H'
theorem New.out {o : HO} {H : Hp} {Q : VK} (h : New o H Q) (p : Addr) (hp : H p = none) : Q (.ref p) (upd H p o) := h p _ hp ((Same.refl H).new hp) upd_same
/-- the object at a is changed -/
def Put (a : Addr) (o : HO) (H : Hp) (Q : Hp → Prop) : Prop := ∀ H', But a H H' → H' a = some o → Q H'
theorem Put.out {a : Addr} {o : HO} {H : Hp} {Q : Hp → Prop} (h : Put a o H Q) : Q (upd H a o) := h _ But.up upd_same
section
variable {X : Cx} {pos : Pos}
def upE (t : TE) : TE := fun σ H Q => ∃ R : VK, t σ H R ∧ ∀ v H', R v H' → Q v H'
theorem PE.up {e : Expr} {t : TE} (h : PE X e t) : PE X e (upE t) := ⟨fun pins s σ H Q I ⟨R, r, k⟩ => thn (h.run pins s σ H R I r) fun u s1 ⟨v, H1, I1, rv, q⟩ => ⟨v, H1, I1, rv, k v H1 q⟩⟩
theorem PE.imp {e : Expr} {t t' : TE} (h : PE X e t) (k : ∀ σ H Q, t' σ H Q → t σ H Q) : PE X e t' := ⟨fun pins s σ H Q I q => h.run pins s σ H Q I (k σ H Q q)⟩
def upA (t : TA) : TA := fun σ H Q => ∃ R : List V → Hp → Prop, t σ H R ∧ ∀ v H', R v H' → Q v H'
theorem PA.up {es : List Expr} {t : TA} (h : PA X es t) : PA X es (upA t) := ⟨fun pos pins s σ H Q I ⟨R, r, k⟩ => thn (h.run pos pins s σ H R I r) fun u s1 ⟨v, H1, I1, rv, q⟩ => ⟨v, H1, I1, rv, k v H1 q⟩⟩
def upG (t : TG) : TG := fun v σ H Q => ∃ R : St → Hp → Prop, t v σ H R ∧ ∀ σ' H', R σ' H' → Q σ' H'
theorem PG.up {e : Expr} {t : TG} (h : PG X e t) : PG X e (upG t) := ⟨fun pins s σ H v u Q I rv ⟨R, r, k⟩ => thn (h.run pins s σ H v u R I rv r) fun _ s1 ⟨σ1, H1, I1, q⟩ => ⟨σ1, H1, I1, k σ1 H1 q⟩⟩
def upT (t : TT) : TT := fun σ H Q => ∃ R : Bool → Hp → Prop, t σ H R ∧ ∀ b H', R b H' → Q b H'
theorem PTs.up {es : List Expr} {t : TT} (h : PTs X es t) : PTs X es (upT t) := ⟨fun pins s σ H Q I ⟨R, r, k⟩ => thn (h.run pins s σ H R I r) fun b s1 ⟨H1, I1, q⟩ => ⟨H1, I1, k b H1 q⟩⟩
theorem PS.imp {st : Stmt} {t t' : TS} (h : PS X st t) (k : ∀ D σ H, t' D σ H → t D σ H) : PS X st t' := ⟨fun pins s σ H D I q => h.run pins s σ H D I (k D σ H q)⟩
theorem OpR.imp {f : Value → Value → Sem Value} {r r' : R2} (h : OpR X f r) (k : ∀ x y H Q, r' x y H Q → r x y H Q) : OpR X f r' := fun pins s σ H x y v u Q I rx ry q => h pins s σ H x y v u Q I rx ry (k x y H Q q)
theorem CallR.imp {f : Value} {r r' : List V → Hp → VK → Prop} (h : CallR X f r) (k : ∀ xs H Q, r' xs H Q → r xs H Q) : CallR X f r' := fun pins s σ H xs us Q I rx q => h pins s σ H xs us Q I rx (k xs H Q q)
theorem MtR.imp {id : String} {r r' : V → List V → Hp → VK → Prop} (h : MtR X id r) (k : ∀ x xs H Q, r' x xs H Q → r x xs H Q) : MtR X id r' := fun pins s σ H x xs v us Q I rx rs q => h pins s σ H x xs v us Q I rx rs (k x xs H Q q)
theorem SlR.imp {r r' : V → Option Int → Option Int → Hp → VK → Prop} (h : SlR X r) (k : ∀ x lo hi H Q, r' x lo hi H Q → r x lo hi H Q) : SlR X r' := fun pins s σ H x v vl vu lo hi sl Q I rx hs pl pu q => h pins s σ H x v vl vu lo hi sl Q I rx hs pl pu (k x lo hi H Q q)
def tLstK (t : TA) : TE := fun σ H Q => t σ H fun xs H1 => xs.length ≤ sizeLine ∧ New (.lst xs) H1 Q
theorem pe_lstK {es : List Expr} {t : TA} (h : PA X es t) : PE X (.List es pos) (tLstK t) := (pe_lst h.up).imp fun σ H Q q => ⟨_, q, fun xs H1 r => ⟨r.1, r.2.out⟩⟩
def tTupK (t : TA) : TE := fun σ H Q => t σ H fun xs H1 => xs.length ≤ sizeLine ∧ New (.tup xs) H1 Q
theorem pe_tupK {x1} {es : List Expr} {t : TA} (h : PA X es t) : PE X (.Tuple es x1 pos) (tTupK t) := (pe_tup h.up).imp fun σ H Q q => ⟨_, q, fun xs H1 r => ⟨r.1, r.2.out⟩⟩
def tDNewTK : TE := fun _ H Q => New (.dT []) H Q
theorem pe_dnewTK : PE X (.Dict [] [] pos) tDNewTK := pe_dnewT.imp fun σ H Q q => q.out
def tDNewKK : TE := fun _ H Q => New (.dK []) H Q
theorem pe_dnewKK : PE X (.Dict [] [] pos) tDNewKK := pe_dnewK.imp fun σ H Q q => q.out
def rCatK : R2 := fun x y H Q => ∃ l b xs zs, x = .ref l ∧ y = .ref b ∧ H l = some (.lst xs) ∧ H b = some (.lst zs) ∧ xs.length + zs.length ≤ sizeLine ∧ New (.lst (xs ++ zs)) H Q
theorem op_catK : OpR X (binaryOp .Add) rCatK := op_cat.imp fun x y H Q ⟨l, b, xs, zs, e1, e2, h1, h2, z, q⟩ => ⟨l, b, xs, zs, e1, e2, h1, h2, z, q.out⟩
def rRepK : R2 := fun x y H Q => ∃ l k xs, x = .ref l ∧ y = .int k ∧ H l = some (.lst xs) ∧ (-(2 ^ 63) ≤ k ∧ k < 2 ^ 63 ∧ xs.length * k.toNat ≤ sizeLine) ∧ New (.lst (List.replicate k.toNat xs).flatten) H Q
theorem op_repK : OpR X (binaryOp .Mult) rRepK := op_rep.imp fun x y H Q ⟨l, k, xs, e1, e2, h1, ⟨z1, z2, z3⟩, q⟩ => ⟨l, k, xs, e1, e2, h1, z1, z2, z3, q.out⟩
def rSlLK (K : PySem.W.Frag) : V → Option Int → Option Int → Hp → VK → Prop := fun x lo hi H Q => ∃ a xs, x = .ref a ∧ SqL K H a xs ∧ New (.lst (cutV xs lo hi)) H Q
theorem sl_listK : SlR X (rSlLK X.K) := sl_list.imp fun x lo hi H Q ⟨a, xs, e, h, q⟩ => ⟨a, xs, e, h, q.out⟩
def rAppK : V → List V → Hp → VK → Prop := fun x vs H Q => ∃ l xs y, x = .ref l ∧ vs = [y] ∧ H l = some (.lst xs) ∧ xs.length < sizeLine ∧ Put l (.lst (xs ++ [y])) H (Q .non)
theorem mt_appendK : MtR X "list.append" rAppK := MtR.imp mt_append fun x xs H Q ⟨l, ys, y, e1, e2, h, z, q⟩ => ⟨l, ys, y, e1, e2, h, z, q.out⟩
def rExtK : V → List V → Hp → VK → Prop := fun x vs H Q => ∃ l b xs zs, x = .ref l ∧ vs = [.ref b] ∧ H l = some (.lst xs) ∧ H b = some (.lst zs) ∧ xs.length + zs.length ≤ sizeLine ∧ Put l (.lst (xs ++ zs)) H (Q .non)
theorem mt_extendK : MtR X "list.extend" rExtK := MtR.imp mt_extend fun x xs H Q ⟨l, b, ys, zs, e1, e2, h, h2, z, q⟩ => ⟨l, b, ys, zs, e1, e2, h, h2, z, q.out⟩
def rPopLK : V → List V → Hp → VK → Prop := fun x vs H Q => ∃ l xs y, x = .ref l ∧ vs = [] ∧ H l = some (.lst xs) ∧ xs[xs.length - 1]? = some y ∧ Put l (.lst xs.dropLast) H (Q y)
theorem mt_popK : MtR X "list.pop" rPopLK := MtR.imp mt_pop fun x xs H Q ⟨l, ys, y, e1, e2, h, z, q⟩ => ⟨l, ys, y, e1, e2, h, z, q.out⟩
def rPopIK : V → List V → Hp → VK → Prop := fun x vs H Q => ∃ l xs i k y, x = .ref l ∧ vs = [.int i] ∧ H l = some (.lst xs) ∧ (-(2 ^ 63) ≤ i ∧ i < 2 ^ 63) ∧ seqIndex? i xs.length = some k ∧ xs[k]? = some y ∧ Put l (.lst (xs.eraseIdx k)) H (Q y)
theorem mt_popAtK : MtR X "list.pop" rPopIK := MtR.imp mt_popAt fun x xs H Q ⟨l, ys, i, k, y, e1, e2, h, z, h3, h4, q⟩ => ⟨l, ys, i, k, y, e1, e2, h, z.1, z.2, h3, h4, q.out⟩
def rClearK : V → List V → Hp → VK → Prop := fun x vs H Q => ∃ l xs, x = .ref l ∧ vs = [] ∧ H l = some (.lst xs) ∧ Put l (.lst []) H (Q .non)
theorem mt_clearK : MtR X "list.clear" rClearK := MtR.imp mt_clear fun x xs H Q ⟨l, ys, e1, e2, h, q⟩ => ⟨l, ys, e1, e2, h, q.out⟩
def rInsK : V → List V → Hp → VK → Prop := fun x vs H Q => ∃ l xs i y, x = .ref l ∧ vs = [.int i, y] ∧ H l = some (.lst xs) ∧ xs.length < sizeLine ∧ (0 ≤ i ∧ i < 2 ^ 63) ∧ Put l (.lst (xs.take i.toNat ++ [y] ++ xs.drop i.toNat)) H (Q .non)
theorem mt_insertK : MtR X "list.insert" rInsK := MtR.imp mt_insert fun x xs H Q ⟨l, ys, i, y, e1, e2, h, z, hi, q⟩ => ⟨l, ys, i, y, e1, e2, h, z, hi.1, hi.2, q.out⟩
def rSetK : V → V → V → Hp → (Hp → Prop) → Prop := fun o i v H Q => ∃ p xs k j, o = .ref p ∧ i = .int k ∧ H p = some (.lst xs) ∧ ixN xs.length k = some j ∧ Put p (.lst (xs.set j v)) H Q
theorem set_listK : PSet X rSetK := fun pins s σ H o i v ov iv u Q I ro ri rv ⟨p, xs, k, j, e1, e2, h, z, q⟩ => set_list pins s σ H o i v ov iv u Q I ro ri rv ⟨p, xs, k, j, e1, e2, h, z, q.out⟩
def rListK (K : PySem.W.Frag) : List V → Hp → VK → Prop := fun xs H Q => ∃ p ys, xs = [.ref p] ∧ (SqL K H p ys ∨ SqT K H p ys) ∧ New (.lst ys) H Q
theorem call_listK : CallR X (.type "list") (rListK X.K) := CallR.imp call_list_of fun xs H Q ⟨p, ys, e, h, q⟩ => ⟨p, ys, e, h, q.out⟩
def rDictDK : List V → Hp → VK → Prop := fun xs H Q => ∃ (a : Addr) (kvs : List (Key × V)), xs = [.ref a] ∧ H a = some (.dK kvs) ∧ New (.dK kvs) H Q
theorem call_dictDK : CallR X (.type "dict") rDictDK := CallR.imp call_dictD fun xs H Q ⟨a, kvs, e, h, q⟩ => ⟨a, kvs, e, .inl h, q.out⟩
def rListDK : List V → Hp → VK → Prop := fun xs H Q => ∃ (a : Addr) (kvs : List (Key × V)), xs = [.ref a] ∧ H a = some (.dK kvs) ∧ New (.lst (kvs.map fun kv => kV kv.1)) H Q
theorem call_listDK (hc : X.calm = true) : CallR X (.type "list") rListDK := CallR.imp (call_listD hc) fun xs H Q ⟨a, kvs, e, h, q⟩ => ⟨a, kvs, e, .inl h, q.out⟩
def rSlTK (K : PySem.W.Frag) : V → Option Int → Option Int → Hp → VK → Prop := fun x lo hi H Q => ∃ a xs, x = .ref a ∧ SqT K H a xs ∧ (cutV xs lo hi).length ≠ xs.length ∧ New (.tup (cutV xs lo hi)) H Q
def rDivK : List V → Hp → VK → Prop := fun xs H Q => ∃ i j, xs = [.int i, .int j] ∧ CDiv i j ∧ New (.tup [.int (i / j), .int (i % j)]) H Q
theorem call_divmodK : CallR X (.builtin "divmod") rDivK := CallR.imp call_divmod fun xs H Q ⟨i, j, e, h, q⟩ => ⟨i, j, e, h, q.out⟩
def rSplitK : V → List V → Hp → VK → Prop := fun x xs H Q => ∃ a b, x = .str a ∧ xs = [.str b] ∧ (b.length == 0) = false ∧ a.length + 2 ≤ sizeLine ∧ New (.lst ((Txt.split a b).map V.str)) H Q
theorem mt_splitK : MtR X "str.split" rSplitK := MtR.imp mt_split fun x xs H Q ⟨a, b, e1, e2, h1, h2, q⟩ => ⟨a, b, e1, e2, h1, h2, q.out⟩
/-- d[k] = v, the keys tuples -/
def sDPutTK (td ty tv : TE) : TS := fun D σ H => tv σ H fun v H1 => td σ H1 fun x H2 => ty σ H2 fun y H3 => ∃ a b kvs k, x = .ref a ∧ y = .ref b ∧ H3 a = some (.dT kvs) ∧ H3 b = some (.tup (k.map kV)) ∧ kvs.length < sizeLine ∧ Put a (.dT (putK kvs k v)) H3 (D.nx σ)
theorem ps_dputTK {o i value : Expr} {td ty tv : TE} {pos' : Pos} (hu : X.A.units + 1 < cLine) (ho : PE X o td) (hi : PE X i ty) (hv : PE X value tv) (hs : swapsWith value (some (.Subscript o i pos')) pos.line X.env = pure false) :
    PS X (.Assign [.Subscript o i pos'] value pos) (sDPutTK td ty tv) := by
  refine (ps_dput hu ho.up hi.up hv.up hs).imp fun D σ H q => ?_
  refine ⟨_, q, fun v H1 q1 => ⟨_, q1, fun x H2 q2 => ⟨_, q2, fun y H3 q3 => ?_⟩⟩⟩
  obtain ⟨a, b, kvs, k, e1, e2, h1, h2, z, r⟩ := q3
  exact ⟨a, _, e1, by rw [e2]; exact DPut.t h1 h2 z, r.out⟩
def sDPutKK (td ty tv : TE) : TS := fun D σ H => tv σ H fun v H1 => td σ H1 fun x H2 => ty σ H2 fun y H3 => ∃ a kvs k, x = .ref a ∧ y = kV k ∧ H3 a = some (.dK kvs) ∧ kvs.length < sizeLine ∧ Put a (.dK (putK kvs k v)) H3 (D.nx σ)
theorem ps_dputKK {o i value : Expr} {td ty tv : TE} {pos' : Pos} (hu : X.A.units + 1 < cLine) (ho : PE X o td) (hi : PE X i ty) (hv : PE X value tv) (hs : swapsWith value (some (.Subscript o i pos')) pos.line X.env = pure false) :
    PS X (.Assign [.Subscript o i pos'] value pos) (sDPutKK td ty tv) := by
  refine (ps_dput hu ho.up hi.up hv.up hs).imp fun D σ H q => ?_
  refine ⟨_, q, fun v H1 q1 => ⟨_, q1, fun x H2 q2 => ⟨_, q2, fun y H3 q3 => ?_⟩⟩⟩
  obtain ⟨a, kvs, k, e1, e2, h1, z, r⟩ := q3
  exact ⟨a, _, e1, by rw [e2]; exact DPut.k h1 z, r.out⟩
def sFldK (K : PySem.W.Frag) (ta tv : TE) (f : Str) : TS := fun D σ H => tv σ H fun y H1 => ta σ H1 fun x H2 => ∃ a C dx fs, x = .ref a ∧ H2 a = some (.ins C dx fs) ∧ Cls K C ∧ NoAttr K C f ∧ fs.length < 1000 ∧ ∃ fs', putF f y fs = fs' ∧ Put a (.ins C dx fs') H2 (D.nx σ)
theorem ps_fldK {o value : Expr} {ta tv : TE} {f : Str} {pos' : Pos} (ha : PE X o ta) (hv : PE X value tv) (hs : swapsWith value (some (.Attribute o f pos')) pos.line X.env = pure false) : PS X (.Assign [.Attribute o f pos'] value pos) (sFldK X.K ta tv f) := by
  refine (ps_fld ha.up hv.up hs).imp fun D σ H q => ?_
  refine ⟨_, q, fun y H1 q1 => ⟨_, q1, fun x H2 q2 => ?_⟩⟩
  obtain ⟨a, C, dx, fs, e1, h1, c, n, z, fs', e2, r⟩ := q2
  exact ⟨a, C, dx, fs, e1, h1, c, n, z, by rw [e2]; exact r.out⟩
def tMakeK (C : Addr) (sp : Sp) (dvs : List V) (E : XK) (t : TA) : TE := fun σ H Q => t σ H fun vs H1 => ∀ (x dx : Addr) (H2 : Hp), Fr H1 x → Same H1 H2 → H2 x = some (.ins C dx []) →
  sp (.ref x :: (vs ++ dvs)) H2 (fun v H3 => v = .non ∧ Q (.ref x) H3) E
theorem tMakeK.out {C : Addr} {sp : Sp} {dvs : List V} {E : XK} {t : TA} {σ : St} {H : Hp} {Q : VK} (q : tMakeK C sp dvs E t σ H Q) : tMake C sp dvs E (upA t) σ H Q := by
  refine ⟨_, q, fun vs H1 r x dx hx hdx ne => r x dx _ hx ?_ upd_same⟩
  exact ((Same.refl H1).new hdx).new (by rw [upd_ne ne.symm]; exact hx)
theorem pe_makeK {CX : CXT} {k : Nat} {C f : Addr} {fd : FuncData} {ps : List Str} {sp : Sp} {x : Str} {p : Pos} {ds : List Value} {dvs : List V} {E : XK} {e : Expr} {es : List Expr} {t : TA} (M : Mk X.K C f) (F : FnOk X.prog X.w X.K X.mg X.base CX k f fd ps sp) (hr : Room (k + 1) X.A) (hg : Gl X x) (hm : X.mg x = some (.ref C)) (hb : Binds X.K fd ps ds) (hd : Vals dvs ds) (hx : Passes CX X E)
    (ha : PA X (e :: es) t) (hdb : (x == ("__debug__" : Str)) = false := by decide) (he : starEach (e :: es) X.env = (false, eval e X.env) :: starEach es X.env := by rfl) (hpl : (backTo pos (starEach es X.env)).any (·.1) = false := by rfl) :
    PE X (.Call (.Name x p) (e :: es) [] pos) (tMakeK C sp dvs E t) := (pe_make M F hr hg hm hb hd hx ha.up hdb he hpl).imp fun σ H Q q => q.out
theorem pe_make0K {CX : CXT} {k : Nat} {C f : Addr} {fd : FuncData} {ps : List Str} {sp : Sp} {x : Str} {p : Pos} {ds : List Value} {dvs : List V} {E : XK} (M : Mk X.K C f) (F : FnOk X.prog X.w X.K X.mg X.base CX k f fd ps sp) (hr : Room (k + 1) X.A) (hg : Gl X x) (hm : X.mg x = some (.ref C)) (hb : Binds X.K fd ps ds) (hd : Vals dvs ds) (hx : Passes CX X E)
    (hdb : (x == ("__debug__" : Str)) = false := by decide) : PE X (.Call (.Name x p) [] [] pos) (tMakeK C sp dvs E tNil) := (pe_make0 M F hr hg hm hb hd hx hdb).imp fun σ H Q q x dx hx hdx ne => q x dx _ hx (((Same.refl H).new hdx).new (by rw [upd_ne ne.symm]; exact hx)) upd_same
end
/-! ### loops and comprehensions over them -/
section
variable {K : PySem.W.Frag} {a : Addr} {xs : List V} {g : TG} {tt : TT} {te : TE} {vs : List Nat} {σ : St} {H1 : Hp} {D : Addr} {Qd : Hp → Prop}
/-- one turn of a comprehension -/
def LcTurn (σ : St) (vs : List Nat) (g : TG) (tt : TT) (te : TE) (D : Addr) (x : V) (H : Hp) (P : Hp → Prop) : Prop :=
  g x (wipe σ vs) H fun σ2 H2 => wipe σ2 vs = wipe σ vs ∧ tt σ2 H2 fun b H3 => if b = true then te σ2 H3 fun y H4 => ∃ acc, H4 D = some (.lst acc) ∧ acc.length < sizeLine ∧ Put D (.lst (acc ++ [y])) H4 P else P H3
theorem LcTurn.out {x : V} {H : Hp} {P : Hp → Prop} (h : LcTurn σ vs g tt te D x H P) : upG g x (wipe σ vs) H fun σ2 H2 => wipe σ2 vs = wipe σ vs ∧ upT tt σ2 H2 fun b H3 =>
    if b = true then upE te σ2 H3 fun y H4 => ∃ acc, H4 D = some (.lst acc) ∧ acc.length < sizeLine ∧ P (upd H4 D (.lst (acc ++ [y]))) else P H3 := by
  refine ⟨_, h, fun σ2 H2 ⟨w, q⟩ => ⟨w, _, q, fun b H3 r => ?_⟩⟩
  cases b with
  | true =>
    rw [if_pos rfl] at r ⊢
    exact ⟨_, r, fun y H4 ⟨acc, h1, h2, h3⟩ => ⟨acc, h1, h2, h3.out⟩⟩
  | false =>
    rw [if_neg Bool.false_ne_true] at r ⊢
    exact r
theorem lcK_list (hD : H1 D = none) (Pv : Nat → Hp → Prop) (h0 : ∀ H', Fr H1 D → Same H1 H' → H' D = some (.lst []) → Pv 0 H') (hl : ∀ i H, i ≤ xs.length → Pv i H → SqL K H a xs) (hs : ∀ i x H, xs[i]? = some x → Pv i H → LcTurn σ vs g tt te D x H (Pv (i + 1))) (hd : ∀ H, Pv xs.length H → Qd H) :
    ∃ W : Nat → Nat → Hp → Prop, (∃ m, W 0 m (upd H1 D (.lst []))) ∧ ∀ i m H, W i m H →
      ((Itl K a).stop i H ∧ Qd H) ∨ ((Itl K a).go i H ∧ ∃ Nx : Hp → Prop, (∀ H', Nx H' → ∃ m', m' < m ∧ W (i + 1) m' H') ∧ ∀ x H', (Itl K a).yld i H x H' → upG g x (wipe σ vs) H' fun σ2 H2 => wipe σ2 vs = wipe σ vs ∧ upT tt σ2 H2 fun b H3 =>
        if b = true then upE te σ2 H3 fun y H4 => ∃ acc, H4 D = some (.lst acc) ∧ acc.length < sizeLine ∧ Nx (upd H4 D (.lst (acc ++ [y]))) else Nx H3) :=
  lc_list Pv (h0 _ hD ((Same.refl H1).new hD) upd_same) hl (fun i x H hx p => (hs i x H hx p).out) hd
theorem lcK_tup (hD : H1 D = none) (Pv : Nat → Hp → Prop) (h0 : ∀ H', Fr H1 D → Same H1 H' → H' D = some (.lst []) → Pv 0 H') (hl : ∀ i H, i ≤ xs.length → Pv i H → SqT K H a xs) (hs : ∀ i x H, xs[i]? = some x → Pv i H → LcTurn σ vs g tt te D x H (Pv (i + 1))) (hd : ∀ H, Pv xs.length H → Qd H) :
    ∃ W : Nat → Nat → Hp → Prop, (∃ m, W 0 m (upd H1 D (.lst []))) ∧ ∀ i m H, W i m H →
      ((Itt K a).stop i H ∧ Qd H) ∨ ((Itt K a).go i H ∧ ∃ Nx : Hp → Prop, (∀ H', Nx H' → ∃ m', m' < m ∧ W (i + 1) m' H') ∧ ∀ x H', (Itt K a).yld i H x H' → upG g x (wipe σ vs) H' fun σ2 H2 => wipe σ2 vs = wipe σ vs ∧ upT tt σ2 H2 fun b H3 =>
        if b = true then upE te σ2 H3 fun y H4 => ∃ acc, H4 D = some (.lst acc) ∧ acc.length < sizeLine ∧ Nx (upd H4 D (.lst (acc ++ [y]))) else Nx H3) :=
  lc_tup Pv (h0 _ hD ((Same.refl H1).new hD) upd_same) hl (fun i x H hx p => (hs i x H hx p).out) hd
theorem lcK_range {lo : Int} {n : Nat} (hD : H1 D = none) (Pv : Nat → Hp → Prop) (h0 : ∀ H', Fr H1 D → Same H1 H' → H' D = some (.lst []) → Pv 0 H') (hs : ∀ i H, i < n → Pv i H → LcTurn σ vs g tt te D (.int (lo + i)) H (Pv (i + 1))) (hd : ∀ H, Pv n H → Qd H) :
    ∃ W : Nat → Nat → Hp → Prop, (∃ m, W 0 m (upd H1 D (.lst []))) ∧ ∀ i m H, W i m H →
      ((Itr lo n).stop i H ∧ Qd H) ∨ ((Itr lo n).go i H ∧ ∃ Nx : Hp → Prop, (∀ H', Nx H' → ∃ m', m' < m ∧ W (i + 1) m' H') ∧ ∀ x H', (Itr lo n).yld i H x H' → upG g x (wipe σ vs) H' fun σ2 H2 => wipe σ2 vs = wipe σ vs ∧ upT tt σ2 H2 fun b H3 =>
        if b = true then upE te σ2 H3 fun y H4 => ∃ acc, H4 D = some (.lst acc) ∧ acc.length < sizeLine ∧ Nx (upd H4 D (.lst (acc ++ [y]))) else Nx H3) :=
  lc_range Pv (h0 _ hD ((Same.refl H1).new hD) upd_same) (fun i H hx p => (hs i H hx p).out) hd
/-- a new pair is unpacked into two names -/
theorem gTup2 {x y : V} {T : Addr} {t : TGs} {H : Hp} {Q : St → Hp → Prop} (hT : H T = none) (h : ∀ H', Same H H' → t [x, y] σ H' Q) : gTup K 2 t (.ref T) σ (upd H T (.tup [x, y])) Q :=
  ⟨T, _, rfl, .of upd_same, rfl, h _ ((Same.refl H).new hT)⟩
end
theorem ins_ne {C C' d d' : Addr} {fs gs : List (Str × V)} (h : fs.length ≠ gs.length) : HO.ins C d fs ≠ HO.ins C' d' gs := fun e => h (by
  injection e with _ _ e
  rw [e])
theorem lkE {a b : Str} {v : V} {r : List (Str × V)} (h : (b == a) = true) : ((a, v) :: r).lookup b = some v := by
  rw [List.lookup_cons, h]
theorem lkN {a b : Str} {v : V} {r : List (Str × V)} {o : Option V} (h : (b == a) = false) (q : r.lookup b = o) : ((a, v) :: r).lookup b = o := by
  rw [List.lookup_cons, h]
  exact q
theorem pfNil {f : Str} {v : V} : putF f v [] = [(f, v)] := rfl
theorem pfE {f g : Str} {v x : V} {r : List (Str × V)} (h : g = f) : putF f v ((g, x) :: r) = (g, v) :: r := if_pos h
theorem pfN {f g : Str} {v x : V} {r r' : List (Str × V)} (h : g ≠ f) (q : putF f v r = r') : putF f v ((g, x) :: r) = (g, x) :: r' := by
  rw [← q]
  exact if_neg h
theorem upd_self {H : Hp} {a : Addr} {o : HO} (h : H a = some o) : upd H a o = H := by
  funext b
  by_cases e : b = a
  · rw [e, upd_same, h]
  · rw [upd_ne e]
/-- a loop whose walk has nothing to give -/
theorem for_none {J : It} {g : TG} {tb : TS} {D : Ends} {σ : St} {H : Hp} (h : J.stop 0 H) (q : D.nx σ H) : ∃ W : Nat → Nat → St → Hp → Prop, (∃ m, W 0 m σ H) ∧ ∀ i m σ H, W i m σ H →
    (J.stop i H ∧ D.nx σ H) ∨ (J.go i H ∧ ∃ N : St → Hp → Prop, (∀ σ' H', N σ' H' → ∃ m', m' < m ∧ W (i + 1) m' σ' H') ∧ ∀ x H', J.yld i H x H' → g x σ H' fun σ2 H2 => tb { D with nx := N, ct := N, bk := D.nx } σ2 H2) := by
  refine ⟨fun i _ σ' H' => i = 0 ∧ σ' = σ ∧ H' = H, ⟨0, rfl, rfl, rfl⟩, ?_⟩
  rintro i m σ' H' ⟨rfl, rfl, rfl⟩
  exact .inl ⟨h, q⟩
theorem lc_none {J : It} {g : TG} {tt : TT} {te : TE} {vs : List Nat} {σ : St} {H1 : Hp} {D : Addr} {Qd : Hp → Prop} (h : J.stop 0 (upd H1 D (.lst []))) (q : Qd (upd H1 D (.lst []))) :
    ∃ W : Nat → Nat → Hp → Prop, (∃ m, W 0 m (upd H1 D (.lst []))) ∧ ∀ i m H, W i m H →
      (J.stop i H ∧ Qd H) ∨ (J.go i H ∧ ∃ Nx : Hp → Prop, (∀ H', Nx H' → ∃ m', m' < m ∧ W (i + 1) m' H') ∧ ∀ x H', J.yld i H x H' → g x (wipe σ vs) H' fun σ2 H2 => wipe σ2 vs = wipe σ vs ∧ tt σ2 H2 fun b H3 =>
        if b = true then te σ2 H3 fun y H4 => ∃ acc, H4 D = some (.lst acc) ∧ acc.length < sizeLine ∧ Nx (upd H4 D (.lst (acc ++ [y]))) else Nx H3) := by
  refine ⟨fun i _ H' => i = 0 ∧ H' = upd H1 D (.lst []), ⟨0, rfl, rfl⟩, ?_⟩
  rintro i m H' ⟨rfl, rfl⟩
  exact .inl ⟨h, q⟩
/-- an empty dict walked by its keys, under its lock -/
theorem lock_keys0 {td : TE} {g : TG} {tb : TS} {D : Ends} {σ : St} {H : Hp} {d : Addr} (hd : H d = some (.dK [])) (hv : ∀ od Q, Q (.ref d) (upd H d (.frz od (.dK []))) → td σ (upd H d (.frz od (.dK []))) Q) (q : D.nx σ H) : tLock (tFor (iKeys td) g tb) D σ H := by
  refine ⟨d, _, hd, trivial, fun od => hv od _ ⟨d, od, rfl, .inl ⟨[], upd_same, ?_⟩⟩⟩
  refine for_none ⟨upd_same, Nat.le_refl _⟩ ⟨upd_same, ?_⟩
  rw [upd_upd, upd_self hd]
  exact q
theorem lock_vals0 {td : TE} {g : TG} {tb : TS} {D : Ends} {σ : St} {H : Hp} {d : Addr} (hd : H d = some (.dK [])) (hv : ∀ od Q, Q (.ref d) (upd H d (.frz od (.dK []))) → td σ (upd H d (.frz od (.dK []))) Q) (q : D.nx σ H) : tLock (tFor (iVals td) g tb) D σ H := by
  refine ⟨d, _, hd, trivial, fun od => hv od _ ⟨d, od, [], rfl, upd_same, ?_⟩⟩
  refine for_none ⟨upd_same, Nat.le_refl _⟩ ⟨upd_same, ?_⟩
  rw [upd_upd, upd_self hd]
  exact q
theorem lock_lc0 {td te : TE} {g : TG} {tt : TT} {vs : List Nat} {σ : St} {H : Hp} {d : Addr} {Q : VK} (hd : H d = some (.dK [])) (hv : ∀ od Q, Q (.ref d) (upd H d (.frz od (.dK []))) → td σ (upd H d (.frz od (.dK []))) Q) (q : New (.lst []) H Q) : tLockE (tLc (iKeys td) g tt te vs) σ H Q := by
  refine ⟨d, _, hd, trivial, fun od => hv od _ ⟨d, od, rfl, .inl ⟨[], upd_same, fun D hD => ?_⟩⟩⟩
  have nd : D ≠ d := (ne_of_none upd_same hD).symm
  have hD0 : H D = none := by
    rw [upd_ne nd] at hD
    exact hD
  refine lc_none ⟨by rw [upd_ne nd.symm]; exact upd_same, Nat.le_refl _⟩ ⟨by rw [upd_ne nd.symm]; exact upd_same, ?_⟩
  have e : upd (upd (upd H d (.frz od (.dK []))) D (.lst [])) d (.dK []) = upd H D (.lst []) := by
    funext b
    by_cases e1 : b = d
    · rw [e1, upd_same, upd_ne nd.symm, hd]
    · rw [upd_ne e1]
      by_cases e2 : b = D
      · rw [e2, upd_same, upd_same]
      · rw [upd_ne e2, upd_ne e2, upd_ne e1]
  rw [e]
  exact q.out D hD0
theorem PT.up {X : Cx} {e : Expr} {t : TT} (h : PT X e t) : PT X e (upT t) := ⟨fun pins s σ H Q I ⟨R, r, k⟩ => thn (h.run pins s σ H R I r) fun b s1 ⟨H1, I1, q⟩ => ⟨H1, I1, k b H1 q⟩⟩
/-- a while, its turns counted down by W's number -/
theorem whileN {c : TT} {tb : TS} {D : Ends} {σ : St} {H : Hp} (W : Nat → St → Hp → Prop) (m0 : Nat) (h0 : W m0 σ H)
    (hs : ∀ m σ H, W m σ H → c σ H fun b H1 => if b = true then tb { D with nx := fun σ' H' => ∃ m', m' < m ∧ W m' σ' H', ct := fun σ' H' => ∃ m', m' < m ∧ W m' σ' H', bk := D.nx } σ H1 else D.nx σ H1) : tWhile (upT c) tb D σ H := by
  refine ⟨W, ⟨m0, h0⟩, fun m σ H w => ⟨_, hs m σ H w, fun b H1 q => ?_⟩⟩
  cases b with
  | true =>
    rw [if_pos rfl] at q ⊢
    exact ⟨_, fun σ' H' h => h, q⟩
  | false =>
    rw [if_neg Bool.false_ne_true] at q ⊢
    exact q
theorem PE.or {X : Cx} {e : Expr} {t u : TE} (h1 : PE X e t) (h2 : PE X e u) : PE X e (fun σ H Q => t σ H Q ∨ u σ H Q) := ⟨fun pins s σ H Q I q => q.elim (h1.run pins s σ H Q I) (h2.run pins s σ H Q I)⟩
theorem szlt {n : Nat} (h : n ≤ 100000) : n < sizeLine := Nat.lt_of_le_of_lt h (by decide)
end L2
/-! ### C() of a class that has no __init__ of its own -/
namespace L2
open PySem PySem.Spec PyProof.Rows
/-- what the class at C must say -/
structure MkO (K : PySem.W.Frag) (C : Addr) : Prop where
  makes : PySem.W.makesIn K C = true
  init : PySem.W.findIn K (.ref C) "__init__" = some (some (.builtin "object.__init__"))
  kp : PySem.W.keepIn K (.ref C) = true
  ob : PySem.W.subIn K (.ref C) (.type "object") = some true
def mkOB (K : PySem.W.Frag) (x : Str) : Bool := PySem.W.makesIn K (He.ga K x) && (decide (PySem.W.findIn K (.ref (He.ga K x)) "__init__" = some (some (.builtin "object.__init__"))) && (PySem.W.keepIn K (.ref (He.ga K x)) && decide (PySem.W.subIn K (.ref (He.ga K x)) (.type "object") = some true)))
theorem mkOB_ok {K : PySem.W.Frag} {x : Str} (h : mkOB K x = true) : MkO K (He.ga K x) := by
  obtain ⟨h1, h⟩ := He.ba h
  obtain ⟨h2, h⟩ := He.ba h
  obtain ⟨h3, h4⟩ := He.ba h
  exact ⟨h1, of_decide_eq_true h2, h3, of_decide_eq_true h4⟩
def insB (K : PySem.W.Frag) (x : Str) : Bool := decide (PySem.W.findIn K (.ref (He.ga K x)) "__class__" = some (some (.builtin "object.__class__"))) && (decide (PySem.W.specialIn K (.builtin "object.__class__") "__get__" = some (some (.builtin "getset_descriptor.__get__"))) &&
  (decide (PySem.W.takesIn K (.builtin "object.__class__") = some true) && (decide (PySem.W.mroIn K (He.ga K x) (.type "object") = some true) && decide (PySem.W.kitOne K (.ref (He.ga K x)) (.ref (He.ga K x)) = some true))))
theorem insB_ok {K : PySem.W.Frag} {x : Str} (c : Cls K (He.ga K x)) (h : insB K x = true) : C8.InsC K (He.ga K x) := by
  obtain ⟨h1, h⟩ := He.ba h
  obtain ⟨h2, h⟩ := He.ba h
  obtain ⟨h3, h⟩ := He.ba h
  obtain ⟨h4, h5⟩ := He.ba h
  exact ⟨c, of_decide_eq_true h1, of_decide_eq_true h2, of_decide_eq_true h3, of_decide_eq_true h4, of_decide_eq_true h5⟩
def tMakeO (C : Addr) : TE := fun _ H Q => ∀ (x dx : Addr) (H2 : Hp), Fr H x → Same H H2 → H2 x = some (.ins C dx []) → Q (.ref x) H2
section
variable {X : Cx} {x : Str} {C : Addr} {p pos : Pos}
theorem pe_makeO (M : MkO X.K C) (hg : Gl X x) (hm : X.mg x = some (.ref C)) (hdb : (x == ("__debug__" : Str)) = false := by decide) : PE X (.Call (.Name x p) [] [] pos) (tMakeO C) := by
  constructor
  intro pins s σ H Q I h
  apply wpAny_Call_Name_kw
  apply ld_glob I hg hm _ hdb
  apply PySem.W.callWith_K0 I.kIn M.kp
  have I2 := Inv.made (C := C) I
  have nx : H (s.heap.objs.size + 1) = none := I.hok.fresh (Nat.le_succ _)
  have nd : H s.heap.objs.size = none := I.hok.fresh (Nat.le_refl _)
  have q := h (s.heap.objs.size + 1) s.heap.objs.size _ nx (((Same.refl H).new (o := HO.own (s.heap.objs.size + 1)) nd).new (by rw [upd_ne (Nat.ne_of_gt (Nat.lt_succ_self _))]; exact nx)) upd_same
  refine wpAny_call (make_map0 I.kIn M.makes M.init (fun self => PySem.W.Looks.of_pure (PySem.W.oi_bind self)) ?_)
  have L : PySem.W.Looks (model X.prog X.w) ((s.heap.push PySem.W.emptyDict).push (PySem.W.instObj C s.heap.objs.size)) (isInstance (.ref (s.heap.objs.size + 1)) (.type "object")) true := by
    obtain ⟨_, _, _, e, _⟩ := (show ObjOk X.prog X.w _ _ _ (.ins C s.heap.objs.size []) from I2.hok _ _ upd_same)
    have T : PySem.W.Looks (model X.prog X.w) ((s.heap.push PySem.W.emptyDict).push (PySem.W.instObj C s.heap.objs.size)) (typeOf (.ref (s.heap.objs.size + 1))) (.ref C) := fun A Q E s k q => wpAny_typeOf_ref (k _ _ e) q
    exact T.andThen (PySem.W.looks_subIn I2.kIn M.ob)
  refine codeAny_call_builtin (by decide +kernel) PySem.F.entry_object_init ?_
  refine PySem.W.check_slot (i := "object.__init__") (owner := "object") (n := "__init__") (rest := []) (by decide +kernel) (by decide +kernel) L (by unfold argsOk; kernel_rfl) ?_
  exact wpAny_pure ⟨rfl, ⟨.ref (s.heap.objs.size + 1), _, I2, rfl, q⟩⟩
end
end L2

/-! ### max and min of ints, with a default -/
namespace PySem.G94D
open PySem PySem.Spec PyProof.Rows
set_option maxRecDepth 100000

theorem mxloop {prog : Program} {w : World} {A : Around} {R : Result → Shared → Prop} {I : Addr} {fp wr : List Addr} {n : Nat} {P : Nat → Value → Prop} {St : Nat → Heap → Prop} (W : Walks prog w A.in1 I fp wr n P St) (val : Nat → Int) (hval : ∀ i v, P i v → ∃ t, v = .int (val i) t)
    (kw : List (Str × Value)) (S : Addr) (hS : S ∉ fp) : ∀ (k j : Nat) (s : Shared) (M : Int) (t : Tok) (c : Nat), n - j = k → j ≤ n → St j s.heap → (∀ i, i < j → val i ≤ M) → (∃ i, i < j ∧ val i = M) →
      s.heap.get? S = some { cls := .type "list", dict := none, data := .seq #[.int M t, .int M t] c, slots := #[] } →
      (∀ h' tk M t, (∀ i, i < n → val i ≤ M) → (∃ i, i < n ∧ val i = M) → (∀ b o, b ∉ wr → b ≠ S → s.heap.get? b = some o → h'.get? b = some o) → R (.ok (.ret (.int M t))) { s with heap := h', toks := tk }) →
      codeAny (model prog w) A (.builtin "max.loop" ⟨[.ref I, .none, .ref S], kw⟩) R s := by
  have nw : S ∉ wr := fun h => hS (W.sub _ h)
  have nm : (toString "max" ++ toString ".loop" : String) = "max.loop" := by decide
  intro k
  induction k with
  | zero =>
    intro j s M t c hk hj st all some_ at_ fin
    obtain rfl : j = n := by omega
    apply codeAny_builtin PySem.F.entry_max_loop
    rw [Around.under_plainId PySem.F.plain_max_loop _]
    show wpAny _ A.in1 (seqItems? (.ref S) >>= _) _ _ s
    apply wpAny_bind
    apply wpAny_seqItems at_ rfl
    show wpAny _ A.in1 (tryCatch (pyNext (.ref I)) _ >>= _) _ _ s
    refine wpAny_bind (wpAny_tryCatch (W.done s _ _ st fun h1 tk keep => ?_))
    show wpAny _ A.in1 (updateSeq S (fun _ => #[]) >>= _) _ _ _
    apply wpAny_bind
    refine wpAny_updateSeq (keep S _ nw at_) rfl (wpAny_bind (wpAny_letGo (wpAny_pure ?_)))
    exact fin _ tk M t all some_ fun b o h2 h3 e => (Heap.get?_update_other _ _ (Ne.symm h3)).trans (keep b o h2 e)
  | succ k ih =>
    intro j s M t c hk hj st all some_ at_ fin
    have lt : j < n := by omega
    apply codeAny_builtin PySem.F.entry_max_loop
    rw [Around.under_plainId PySem.F.plain_max_loop _]
    show wpAny _ A.in1 (seqItems? (.ref S) >>= _) _ _ s
    apply wpAny_bind
    apply wpAny_seqItems at_ rfl
    show wpAny _ A.in1 (tryCatch (pyNext (.ref I)) _ >>= _) _ _ s
    refine wpAny_bind (wpAny_tryCatch (W.item j s _ _ lt st fun v h1 tk pv st1 keep => ?_))
    obtain ⟨u, rfl⟩ := hval j v pv
    have at1 := keep S _ nw at_
    show wpAny _ A.in1 (tryCatch (holding [.int (val j) u, .int (val j) u] (richCompare .Gt (.int (val j) u) (.int M t) >>= _)) _ >>= _) _ _ _
    refine wpAny_bind (wpAny_tryCatch (wpAny_holding (wpAny_bind (richCompare_gives (op := .Gt) (typeIs_int _ _ u) (typeIs_int _ _ t) PySem.F.slot_int_gt PySem.F.entry_int_gt (PySem.F.args_int_gt_2 _ _) (gives_int_gt _ _ u t) (fun x => nomatch x) ?_))))
    refine wpAny_bind (wpAny_holding (wpAny_truthy_bool ?_))
    refine wpAny_bind (wpAny_letGo (wpAny_pure ?_))
    by_cases hb : M ≤ val j ∧ M ≠ val j
    · rw [show decide (val j > M) = true from decide_eq_true (by omega), if_pos rfl]
      apply wpAny_bind
      refine wpAny_updateSeq at1 rfl (wpAny_bind (wpAny_letGo ?_))
      rw [nm]
      refine wpAny_pure ⟨plainId_quiet PySem.F.plain_max_loop _, ih (j + 1) _ (val j) u _ (by omega) lt (W.frame _ _ _ st1 fun b hbf o e => ?_) (fun i hi => ?_) ⟨j, by omega, rfl⟩ (Heap.get?_update_self _ at1 rfl) fun h2 tk2 M2 t2 a2 s2 k2 => ?_⟩
      · exact (Heap.get?_update_other _ _ (fun h : S = b => hS (by rw [h]; exact hbf))).trans e
      · rcases Nat.lt_or_ge i j with h | h
        · have := all i h
          omega
        · obtain rfl : i = j := by omega
          exact Int.le_refl _
      · exact fin _ tk2 M2 t2 a2 s2 fun b o n1 n2 e => k2 b o n1 n2 ((Heap.get?_update_other _ _ (Ne.symm n2)).trans (keep b o n1 e))
    · rw [show decide (val j > M) = false from decide_eq_false (by omega), if_neg Bool.false_ne_true]
      refine wpAny_bind (wpAny_letGo ?_)
      rw [nm]
      obtain ⟨i0, h0, e0⟩ := some_
      refine wpAny_pure ⟨plainId_quiet PySem.F.plain_max_loop _, ih (j + 1) _ M t c (by omega) lt st1 (fun i hi => ?_) ⟨i0, by omega, e0⟩ at1 fun h2 tk2 M2 t2 a2 s2 k2 => fin _ tk2 M2 t2 a2 s2 fun b o n1 n2 e => k2 b o n1 n2 (keep b o n1 e)⟩
      rcases Nat.lt_or_ge i j with h | h
      · exact all i h
      · obtain rfl : i = j := by omega
        omega
theorem mxargs (a d : Value) : argsOk "max" ⟨[a], [(Str.ofString "default", d)]⟩ := by
  unfold argsOk
  kernel_rfl
theorem mxcall {prog : Program} {w : World} {A : Around} {E : Value → Shared → Prop} {s : Shared} {l : Addr} {xs : Array (Int × Tok)} {d : Value} {Q : Value → Shared → Prop} (hh : A.handled = none) (hl : s.heap.IsList l (intItems xs))
    (h0 : ∀ h' tk, xs.size = 0 → (∀ b o, s.heap.get? b = some o → h'.get? b = some o) → Q d { s with heap := h', toks := tk })
    (h1 : ∀ h' tk M t, (∀ i, i < xs.size → numAt xs i ≤ M) → (∃ i, i < xs.size ∧ numAt xs i = M) → (∀ b o, s.heap.get? b = some o → h'.get? b = some o) → Q (.int M t) { s with heap := h', toks := tk }) :
    wpAny (model prog w) A (call (.builtin "max") [.ref l] [("default", d)]) Q E s := by
  have nm : (toString "max" ++ toString ".loop" : String) = "max.loop" := by decide
  refine kmk_tree PySem.F.kind_max PySem.F.plain_max PySem.F.entry_max (mxargs _ _) ?_
  show wpAny _ A.in1 (Builtin.Builtins.bindParams "max" ["key", "default"] 0 ⟨[], [(Str.ofString "default", d)]⟩ >>= _) _ _ s
  refine wpAny_bind (wpAny_of_eq (show Builtin.Builtins.bindParams "max" ["key", "default"] 0 ⟨[], [(Str.ofString "default", d)]⟩ = pure [none, some d] by kernel_rfl) ?_)
  refine wpAny_bind (wpAny_pure ?_)
  refine wpAny_bind (iter_intList hl fun s2 e st hfp hlI => ?_)
  subst e
  refine wpAny_bind (wpAny_newObj_type ?_)
  have W := Walks.list (prog := prog) (w := w) (A := A.in1) hh s.heap.objs.size l hlI (intItems xs)
  have hsz : (intItems xs).size = xs.size := by simp [intItems]
  have kp : ∀ {h' : Heap} {o1 o2 : Obj}, (∀ b o, b ∉ [s.heap.objs.size] → b ≠ s.heap.objs.size + 1 → ((s.heap.push o1).push o2).get? b = some o → h'.get? b = some o) → ∀ b o, s.heap.get? b = some o → h'.get? b = some o := fun q b o e => by
    have lt := Heap.lt_size e
    refine q b o (fun hm => ?_) (Nat.ne_of_lt (Nat.lt_succ_of_lt lt)) (Heap.get?_push_of_some _ (Heap.get?_push_of_some _ e))
    rcases List.mem_cons.mp hm with e1 | hm
    · exact Nat.lt_irrefl _ (e1 ▸ lt)
    · cases hm
  generalize hS : (s.heap.push { cls := .type "list_iterator", data := .fields #[.ref l, .int 0 0] }).objs.size = S
  have eS : S = s.heap.objs.size + 1 := by rw [← hS, Heap.size_push]
  have hSf : S ∉ [s.heap.objs.size, l] := by
    intro hm
    have := hfp S hm
    have e2 : (s.heap.push { cls := .type "list_iterator", data := .fields #[.ref l, .int 0 0] }).objs.size = S := hS
    exact absurd (show S < _ from this) (by rw [e2]; exact Nat.lt_irrefl _)
  have st0 := W.frame 0 _ ((s.heap.push { cls := .type "list_iterator", data := .fields #[.ref l, .int 0 0] }).push { cls := .type "list", data := .seq #[] 0 }) st fun b _ o e => Heap.get?_push_of_some _ e
  have atS : ((s.heap.push { cls := .type "list_iterator", data := .fields #[.ref l, .int 0 0] }).push { cls := .type "list", data := .seq #[] 0 }).get? S = some { cls := .type "list", dict := none, data := .seq #[] 0, slots := #[] } := by
    rw [← hS]
    exact Heap.get?_push_size _ rfl
  have nw : S ∉ [s.heap.objs.size] := fun h => hSf (W.sub _ h)
  rw [nm]
  refine wpAny_pure ⟨plainId_quiet PySem.F.plain_max_loop _, ?_⟩
  apply codeAny_builtin PySem.F.entry_max_loop
  rw [Around.under_plainId PySem.F.plain_max_loop _]
  show wpAny _ A.in1 (seqItems? (.ref S) >>= _) _ _ _
  apply wpAny_bind
  apply wpAny_seqItems atS rfl
  show wpAny _ A.in1 (tryCatch (pyNext (.ref s.heap.objs.size)) _ >>= _) _ _ _
  rcases Nat.eq_zero_or_pos xs.size with hz | hz
  · refine wpAny_bind (wpAny_tryCatch (W.done _ _ _ (by rw [hsz, hz]; exact st0) fun h2 tk keep => ?_))
    refine wpAny_bind (wpAny_rule ?_)
    exact wpAny_pure (h0 _ tk hz (kp fun b o n1 _ e => keep b o n1 e))
  · refine wpAny_bind (wpAny_tryCatch (W.item 0 _ _ _ (by rw [hsz]; exact hz) st0 fun v h2 tk pv st1 keep => ?_))
    obtain ⟨u, rfl⟩ := intItems_at pv
    have at1 := keep S _ nw atS
    show wpAny _ A.in1 (updateSeq S (fun _ => #[.int (numAt xs 0) u, .int (numAt xs 0) u]) >>= _) _ _ _
    apply wpAny_bind
    refine wpAny_updateSeq at1 rfl ?_
    rw [nm]
    refine wpAny_pure ⟨plainId_quiet PySem.F.plain_max_loop _, mxloop W (numAt xs) (fun _ _ => intItems_at) _ S hSf _ 1 _ (numAt xs 0) u _ rfl (by rw [hsz]; exact hz) (W.frame _ _ _ st1 fun b hbf o e => ?_) (fun i hi => ?_) ⟨0, by omega, rfl⟩ (Heap.get?_update_self _ at1 rfl) fun h3 tk3 M t a3 s3 k3 => ?_⟩
    · exact (Heap.get?_update_other _ _ (fun h : S = b => hSf (by rw [h]; exact hbf))).trans e
    · obtain rfl : i = 0 := by omega
      exact Int.le_refl _
    · rw [hsz] at a3 s3
      exact h1 _ tk3 M t a3 s3 (kp fun b o n1 n2 e => k3 b o n1 (by rw [eS]; exact n2) ((Heap.get?_update_other _ _ (by rw [eS]; exact Ne.symm n2)).trans (keep b o n1 e)))

theorem mnloop {prog : Program} {w : World} {A : Around} {R : Result → Shared → Prop} {I : Addr} {fp wr : List Addr} {n : Nat} {P : Nat → Value → Prop} {St : Nat → Heap → Prop} (W : Walks prog w A.in1 I fp wr n P St) (val : Nat → Int) (hval : ∀ i v, P i v → ∃ t, v = .int (val i) t)
    (kw : List (Str × Value)) (S : Addr) (hS : S ∉ fp) : ∀ (k j : Nat) (s : Shared) (M : Int) (t : Tok) (c : Nat), n - j = k → j ≤ n → St j s.heap → (∀ i, i < j → M ≤ val i) → (∃ i, i < j ∧ val i = M) →
      s.heap.get? S = some { cls := .type "list", dict := none, data := .seq #[.int M t, .int M t] c, slots := #[] } →
      (∀ h' tk M t, (∀ i, i < n → M ≤ val i) → (∃ i, i < n ∧ val i = M) → (∀ b o, b ∉ wr → b ≠ S → s.heap.get? b = some o → h'.get? b = some o) → R (.ok (.ret (.int M t))) { s with heap := h', toks := tk }) →
      codeAny (model prog w) A (.builtin "min.loop" ⟨[.ref I, .none, .ref S], kw⟩) R s := by
  have nw : S ∉ wr := fun h => hS (W.sub _ h)
  have nm : (toString "min" ++ toString ".loop" : String) = "min.loop" := by decide
  intro k
  induction k with
  | zero =>
    intro j s M t c hk hj st all some_ at_ fin
    obtain rfl : j = n := by omega
    apply codeAny_builtin PySem.F.entry_min_loop
    rw [Around.under_plainId PySem.F.plain_min_loop _]
    show wpAny _ A.in1 (seqItems? (.ref S) >>= _) _ _ s
    apply wpAny_bind
    apply wpAny_seqItems at_ rfl
    show wpAny _ A.in1 (tryCatch (pyNext (.ref I)) _ >>= _) _ _ s
    refine wpAny_bind (wpAny_tryCatch (W.done s _ _ st fun h1 tk keep => ?_))
    show wpAny _ A.in1 (updateSeq S (fun _ => #[]) >>= _) _ _ _
    apply wpAny_bind
    refine wpAny_updateSeq (keep S _ nw at_) rfl (wpAny_bind (wpAny_letGo (wpAny_pure ?_)))
    exact fin _ tk M t all some_ fun b o h2 h3 e => (Heap.get?_update_other _ _ (Ne.symm h3)).trans (keep b o h2 e)
  | succ k ih =>
    intro j s M t c hk hj st all some_ at_ fin
    have lt : j < n := by omega
    apply codeAny_builtin PySem.F.entry_min_loop
    rw [Around.under_plainId PySem.F.plain_min_loop _]
    show wpAny _ A.in1 (seqItems? (.ref S) >>= _) _ _ s
    apply wpAny_bind
    apply wpAny_seqItems at_ rfl
    show wpAny _ A.in1 (tryCatch (pyNext (.ref I)) _ >>= _) _ _ s
    refine wpAny_bind (wpAny_tryCatch (W.item j s _ _ lt st fun v h1 tk pv st1 keep => ?_))
    obtain ⟨u, rfl⟩ := hval j v pv
    have at1 := keep S _ nw at_
    show wpAny _ A.in1 (tryCatch (holding [.int (val j) u, .int (val j) u] (richCompare .Lt (.int (val j) u) (.int M t) >>= _)) _ >>= _) _ _ _
    refine wpAny_bind (wpAny_tryCatch (wpAny_holding (wpAny_bind (richCompare_gives (op := .Lt) (typeIs_int _ _ u) (typeIs_int _ _ t) PySem.F.slot_int_lt PySem.F.entry_int_lt (PySem.F.args_int_lt_2 _ _) (gives_int_lt _ _ u t) (fun x => nomatch x) ?_))))
    refine wpAny_bind (wpAny_holding (wpAny_truthy_bool ?_))
    refine wpAny_bind (wpAny_letGo (wpAny_pure ?_))
    by_cases hb : val j ≤ M ∧ M ≠ val j
    · rw [show decide (val j < M) = true from decide_eq_true (by omega), if_pos rfl]
      apply wpAny_bind
      refine wpAny_updateSeq at1 rfl (wpAny_bind (wpAny_letGo ?_))
      rw [nm]
      refine wpAny_pure ⟨plainId_quiet PySem.F.plain_min_loop _, ih (j + 1) _ (val j) u _ (by omega) lt (W.frame _ _ _ st1 fun b hbf o e => ?_) (fun i hi => ?_) ⟨j, by omega, rfl⟩ (Heap.get?_update_self _ at1 rfl) fun h2 tk2 M2 t2 a2 s2 k2 => ?_⟩
      · exact (Heap.get?_update_other _ _ (fun h : S = b => hS (by rw [h]; exact hbf))).trans e
      · rcases Nat.lt_or_ge i j with h | h
        · have := all i h
          omega
        · obtain rfl : i = j := by omega
          exact Int.le_refl _
      · exact fin _ tk2 M2 t2 a2 s2 fun b o n1 n2 e => k2 b o n1 n2 ((Heap.get?_update_other _ _ (Ne.symm n2)).trans (keep b o n1 e))
    · rw [show decide (val j < M) = false from decide_eq_false (by omega), if_neg Bool.false_ne_true]
      refine wpAny_bind (wpAny_letGo ?_)
      rw [nm]
      obtain ⟨i0, h0, e0⟩ := some_
      refine wpAny_pure ⟨plainId_quiet PySem.F.plain_min_loop _, ih (j + 1) _ M t c (by omega) lt st1 (fun i hi => ?_) ⟨i0, by omega, e0⟩ at1 fun h2 tk2 M2 t2 a2 s2 k2 => fin _ tk2 M2 t2 a2 s2 fun b o n1 n2 e => k2 b o n1 n2 (keep b o n1 e)⟩
      rcases Nat.lt_or_ge i j with h | h
      · exact all i h
      · obtain rfl : i = j := by omega
        omega
theorem mnargs (a d : Value) : argsOk "min" ⟨[a], [(Str.ofString "default", d)]⟩ := by
  unfold argsOk
  kernel_rfl
theorem mncall {prog : Program} {w : World} {A : Around} {E : Value → Shared → Prop} {s : Shared} {l : Addr} {xs : Array (Int × Tok)} {d : Value} {Q : Value → Shared → Prop} (hh : A.handled = none) (hl : s.heap.IsList l (intItems xs))
    (h0 : ∀ h' tk, xs.size = 0 → (∀ b o, s.heap.get? b = some o → h'.get? b = some o) → Q d { s with heap := h', toks := tk })
    (h1 : ∀ h' tk M t, (∀ i, i < xs.size → M ≤ numAt xs i) → (∃ i, i < xs.size ∧ numAt xs i = M) → (∀ b o, s.heap.get? b = some o → h'.get? b = some o) → Q (.int M t) { s with heap := h', toks := tk }) :
    wpAny (model prog w) A (call (.builtin "min") [.ref l] [("default", d)]) Q E s := by
  have nm : (toString "min" ++ toString ".loop" : String) = "min.loop" := by decide
  refine kmk_tree PySem.F.kind_min PySem.F.plain_min PySem.F.entry_min (mnargs _ _) ?_
  show wpAny _ A.in1 (Builtin.Builtins.bindParams "min" ["key", "default"] 0 ⟨[], [(Str.ofString "default", d)]⟩ >>= _) _ _ s
  refine wpAny_bind (wpAny_of_eq (show Builtin.Builtins.bindParams "min" ["key", "default"] 0 ⟨[], [(Str.ofString "default", d)]⟩ = pure [none, some d] by kernel_rfl) ?_)
  refine wpAny_bind (wpAny_pure ?_)
  refine wpAny_bind (iter_intList hl fun s2 e st hfp hlI => ?_)
  subst e
  refine wpAny_bind (wpAny_newObj_type ?_)
  have W := Walks.list (prog := prog) (w := w) (A := A.in1) hh s.heap.objs.size l hlI (intItems xs)
  have hsz : (intItems xs).size = xs.size := by simp [intItems]
  have kp : ∀ {h' : Heap} {o1 o2 : Obj}, (∀ b o, b ∉ [s.heap.objs.size] → b ≠ s.heap.objs.size + 1 → ((s.heap.push o1).push o2).get? b = some o → h'.get? b = some o) → ∀ b o, s.heap.get? b = some o → h'.get? b = some o := fun q b o e => by
    have lt := Heap.lt_size e
    refine q b o (fun hm => ?_) (Nat.ne_of_lt (Nat.lt_succ_of_lt lt)) (Heap.get?_push_of_some _ (Heap.get?_push_of_some _ e))
    rcases List.mem_cons.mp hm with e1 | hm
    · exact Nat.lt_irrefl _ (e1 ▸ lt)
    · cases hm
  generalize hS : (s.heap.push { cls := .type "list_iterator", data := .fields #[.ref l, .int 0 0] }).objs.size = S
  have eS : S = s.heap.objs.size + 1 := by rw [← hS, Heap.size_push]
  have hSf : S ∉ [s.heap.objs.size, l] := by
    intro hm
    have := hfp S hm
    have e2 : (s.heap.push { cls := .type "list_iterator", data := .fields #[.ref l, .int 0 0] }).objs.size = S := hS
    exact absurd (show S < _ from this) (by rw [e2]; exact Nat.lt_irrefl _)
  have st0 := W.frame 0 _ ((s.heap.push { cls := .type "list_iterator", data := .fields #[.ref l, .int 0 0] }).push { cls := .type "list", data := .seq #[] 0 }) st fun b _ o e => Heap.get?_push_of_some _ e
  have atS : ((s.heap.push { cls := .type "list_iterator", data := .fields #[.ref l, .int 0 0] }).push { cls := .type "list", data := .seq #[] 0 }).get? S = some { cls := .type "list", dict := none, data := .seq #[] 0, slots := #[] } := by
    rw [← hS]
    exact Heap.get?_push_size _ rfl
  have nw : S ∉ [s.heap.objs.size] := fun h => hSf (W.sub _ h)
  rw [nm]
  refine wpAny_pure ⟨plainId_quiet PySem.F.plain_min_loop _, ?_⟩
  apply codeAny_builtin PySem.F.entry_min_loop
  rw [Around.under_plainId PySem.F.plain_min_loop _]
  show wpAny _ A.in1 (seqItems? (.ref S) >>= _) _ _ _
  apply wpAny_bind
  apply wpAny_seqItems atS rfl
  show wpAny _ A.in1 (tryCatch (pyNext (.ref s.heap.objs.size)) _ >>= _) _ _ _
  rcases Nat.eq_zero_or_pos xs.size with hz | hz
  · refine wpAny_bind (wpAny_tryCatch (W.done _ _ _ (by rw [hsz, hz]; exact st0) fun h2 tk keep => ?_))
    refine wpAny_bind (wpAny_rule ?_)
    exact wpAny_pure (h0 _ tk hz (kp fun b o n1 _ e => keep b o n1 e))
  · refine wpAny_bind (wpAny_tryCatch (W.item 0 _ _ _ (by rw [hsz]; exact hz) st0 fun v h2 tk pv st1 keep => ?_))
    obtain ⟨u, rfl⟩ := intItems_at pv
    have at1 := keep S _ nw atS
    show wpAny _ A.in1 (updateSeq S (fun _ => #[.int (numAt xs 0) u, .int (numAt xs 0) u]) >>= _) _ _ _
    apply wpAny_bind
    refine wpAny_updateSeq at1 rfl ?_
    rw [nm]
    refine wpAny_pure ⟨plainId_quiet PySem.F.plain_min_loop _, mnloop W (numAt xs) (fun _ _ => intItems_at) _ S hSf _ 1 _ (numAt xs 0) u _ rfl (by rw [hsz]; exact hz) (W.frame _ _ _ st1 fun b hbf o e => ?_) (fun i hi => ?_) ⟨0, by omega, rfl⟩ (Heap.get?_update_self _ at1 rfl) fun h3 tk3 M t a3 s3 k3 => ?_⟩
    · exact (Heap.get?_update_other _ _ (fun h : S = b => hSf (by rw [h]; exact hbf))).trans e
    · obtain rfl : i = 0 := by omega
      exact Int.le_refl _
    · rw [hsz] at a3 s3
      exact h1 _ tk3 M t a3 s3 (kp fun b o n1 n2 e => k3 b o n1 (by rw [eS]; exact n2) ((Heap.get?_update_other _ _ (by rw [eS]; exact Ne.symm n2)).trans (keep b o n1 e)))
end PySem.G94D
namespace L2
open PySem PySem.Spec PyProof.Rows
section
variable {X : Cx}
/-- max(xs, default=d), xs a list of ints -/
def rMaxD (K : PySem.W.Frag) : List V → List V → Hp → VK → Prop := fun vs zs H Q => ∃ (a : Addr) (ns : List Int) (d : V), vs = [V.ref a] ∧ zs = [d] ∧ SqL K H a (ns.map V.int) ∧ (ns = [] → Q d H) ∧ ∀ m, m ∈ ns → (∀ y, y ∈ ns → y ≤ m) → Q (.int m) H
theorem cr_maxD (hc : X.calm = true) : CallRK X (.builtin "max") [Str.ofString "default"] (rMaxD X.K) := by
  intro pins s σ H vs zs us ws Q I r rz h
  obtain ⟨a, ns, d, rfl, rfl, hs, q0, q1⟩ := h
  obtain ⟨its, rv, hl, _⟩ := I.list hs
  rw [Vals.ref1 r]
  obtain ⟨dv, rfl, rd⟩ := vals1 rz
  obtain ⟨xs, e⟩ := rv.ints.allInts.items
  have hn : numsOf (intItems xs).toList = ns := by rw [← e]; exact rv.ints.numsOf
  rw [nums_intItems] at hn
  have hl2 := hl.isList
  rw [e] at hl2
  have sz : xs.size = ns.length := by rw [← hn, List.length_map, Array.length_toList]
  show wpAny _ _ (call (.builtin "max") [.ref a] [(Str.ofString "default", dv)]) _ _ _
  refine PySem.G94D.mxcall (I.ok.hd hc) hl2 (fun h' tk hz hk => ?_) fun h' tk M t ha hsm hk => ?_
  · exact ⟨d, H, I.kept hk, rd, q0 (List.eq_nil_of_length_eq_zero (by omega))⟩
  · refine ⟨.int M, H, I.kept hk, ⟨_, rfl⟩, q1 M ?_ fun y hy => ?_⟩
    · obtain ⟨i, hi, e2⟩ := hsm
      rw [← e2, numAt_eq, ← hn]
      exact PySem.getD_mem (by rw [List.length_map, Array.length_toList]; exact hi)
    · rw [← hn] at hy
      obtain ⟨j, hj, rfl⟩ := mem_getD hy
      rw [List.length_map, Array.length_toList] at hj
      rw [← numAt_eq]
      exact ha j hj
/-- min(xs, default=d), xs a list of ints -/
def rMinD (K : PySem.W.Frag) : List V → List V → Hp → VK → Prop := fun vs zs H Q => ∃ (a : Addr) (ns : List Int) (d : V), vs = [V.ref a] ∧ zs = [d] ∧ SqL K H a (ns.map V.int) ∧ (ns = [] → Q d H) ∧ ∀ m, m ∈ ns → (∀ y, y ∈ ns → m ≤ y) → Q (.int m) H
theorem cr_minD (hc : X.calm = true) : CallRK X (.builtin "min") [Str.ofString "default"] (rMinD X.K) := by
  intro pins s σ H vs zs us ws Q I r rz h
  obtain ⟨a, ns, d, rfl, rfl, hs, q0, q1⟩ := h
  obtain ⟨its, rv, hl, _⟩ := I.list hs
  rw [Vals.ref1 r]
  obtain ⟨dv, rfl, rd⟩ := vals1 rz
  obtain ⟨xs, e⟩ := rv.ints.allInts.items
  have hn : numsOf (intItems xs).toList = ns := by rw [← e]; exact rv.ints.numsOf
  rw [nums_intItems] at hn
  have hl2 := hl.isList
  rw [e] at hl2
  have sz : xs.size = ns.length := by rw [← hn, List.length_map, Array.length_toList]
  show wpAny _ _ (call (.builtin "min") [.ref a] [(Str.ofString "default", dv)]) _ _ _
  refine PySem.G94D.mncall (I.ok.hd hc) hl2 (fun h' tk hz hk => ?_) fun h' tk M t ha hsm hk => ?_
  · exact ⟨d, H, I.kept hk, rd, q0 (List.eq_nil_of_length_eq_zero (by omega))⟩
  · refine ⟨.int M, H, I.kept hk, ⟨_, rfl⟩, q1 M ?_ fun y hy => ?_⟩
    · obtain ⟨i, hi, e2⟩ := hsm
      rw [← e2, numAt_eq, ← hn]
      exact PySem.getD_mem (by rw [List.length_map, Array.length_toList]; exact hi)
    · rw [← hn] at hy
      obtain ⟨j, hj, rfl⟩ := mem_getD hy
      rw [List.length_map, Array.length_toList] at hj
      rw [← numAt_eq]
      exact ha j hj
end
end L2

/-! sets of nothing: set(d) of an empty dict, one such set | another one -/
namespace S0
open PySem PySem.Spec PyProof.Rows L2
theorem sub_dict_set : isSubtype (.type "dict") (.type "set") = pure false := by rw [isSubtype_type]; kernel_rfl
theorem sub_dict_frozenset : isSubtype (.type "dict") (.type "frozenset") = pure false := by rw [isSubtype_type]; kernel_rfl
theorem entry_or : entryFor table "set.__or__" = some Builtin.«frozenset.__or__» :=
  entryFor_alias (id' := "frozenset.__or__") (by kernel_rfl) rfl (by decide +kernel) (by kernel_rfl)
section
variable {P : Program} {w : World} {A : Around} {E : Value → Shared → Prop} {s : Shared}
/-- a new set -/
abbrev newS (w : World) : Obj := { cls := .type "set", dict := none, data := .set #[] 0 (.fresh 0 0 (!w.params.followText "set-order")) }
theorem state_new {a : Addr} {Q : (Array (Int × Value) × Nat × SetTable) → Shared → Prop} (ho : s.heap.get? a = some (newS w)) (h : Q (#[], 0, .fresh 0 0 (!w.params.followText "set-order")) s) :
    wpAny (model P w) A (setState a) Q E s := wpAny_setState_of ho rfl (by rfl) h
theorem new_set {Q : Value → Shared → Prop} (h : Q (.ref s.heap.objs.size) { s with heap := s.heap.push (newS w) }) : wpAny (model P w) A (newSet (.type "set")) Q E s := by
  unfold newSet
  refine wpAny_bind (wpAny_byText ?_)
  dsimp only
  simp only [newObj]
  exact wpAny_bind (wpAny_alloc (wpAny_pure h))

set_option maxHeartbeats 3200000 in
theorem update_dict0 {id : String} {d l : Addr} {od : Obj} {ep : Nat} {Q : Unit → Shared → Prop} (hm : (l == sysModules) = false) (hS : s.heap.get? d = some (newS w)) (hol : s.heap.get? l = some od) (hcl : od.cls = .type "dict") (hdl : od.data = .dict #[] ep) (h : Q () s) :
    wpAny (model P w) A (Builtin.Frozenset.updateFrom id d (.ref l)) Q E s := by
  have hTl : s.TypeIs (.ref l) "dict" := ⟨_, hol, hcl⟩
  have hsls := sub_dict_set
  have hslf := sub_dict_frozenset
  obtain ⟨ocls, odict, odata, oslots⟩ := od
  simp only at hcl hdl
  subst hcl; subst hdl
  unfold Builtin.Frozenset.updateFrom Builtin.Frozenset.isAnySet
  simp only [Std.Legacy.Range.forIn_eq_forIn_range']
  generalize hR : @setRoomFor = R
  wp_walk
  subst hR
  unfold setRoomFor
  refine wpAny_bind (state_new hS ?_)
  wp_walk
  exact h

set_option maxRecDepth 100000 in
set_option maxHeartbeats 3200000 in
theorem call_set_dict0 {l : Addr} {od : Obj} {ep : Nat} {Q : Value → Shared → Prop} (hm : (l == sysModules) = false) (hol0 : s.heap.get? l = some od) (hcl : od.cls = .type "dict") (hdl : od.data = .dict #[] ep)
    (h : Q (.ref s.heap.objs.size) { s with heap := s.heap.push (newS w) }) :
    wpAny (model P w) A (call (.type "set") [.ref l]) Q E s := by
  obtain ⟨c, tl, hmro⟩ := F.called_set.mro
  have hmade := F.called_set.made
  have hsub := F.called_set.sub
  refine wpAny_call (codeAny_of_tree ?_)
  show wpAny _ _ (callAny (.type "set") _) _ _ _
  refine wpAny_pure ⟨Code.quiet_builtin _ (by decide +kernel), codeAny_builtin F.entry_type_call ?_⟩
  rw [Around.under_plain (weight_type_call_type "set" [.ref l] []) rfl]
  have h1 := F.called_set.notType
  have h2 := F.called_set.canCreate
  have hct := F.typeCall_set_1 (.ref l)
  repeat (any_goals (first | assumption | wp_step))
  refine codeAny_mono (code_set_led1 (.ref l) (E := E) (Q₁ := fun obj s₁ => obj = .ref s.heap.objs.size ∧ s₁ = { s with heap := s.heap.push (newS w) }) ⟨rfl, rfl⟩) fun r s₁ hr => ?_
  cases r with
  | error e => exact hr
  | ok fl =>
    cases fl with
    | ret obj =>
      obtain ⟨rfl, rfl⟩ := hr
      have hS : (s.heap.push (newS w)).get? s.heap.objs.size = some (newS w) := Heap.get?_push_size _ rfl
      have hT : Shared.TypeIs { s with heap := s.heap.push (newS w) } (.ref s.heap.objs.size) "set" := ⟨_, hS, rfl⟩
      have hli := F.called_set.init.lookup
      have hbi := F.called_set.init.bind (.ref s.heap.objs.size)
      repeat (any_goals (first | assumption | wp_step))
      refine codeAny_mono (codeAny_call_builtin (R := wants (fun r s₂ => r = .none ∧ s₂ = { s with heap := s.heap.push (newS w) }) E) F.called_set.init.plain F.entry_set_init (check_set_init_1 hT ?_)) fun r₂ s₂ hr₂ => ?_
      · have hol : (s.heap.push (newS w)).get? l = some od := Heap.get?_push_of_some _ hol0
        have hTl : Shared.TypeIs { s with heap := s.heap.push (newS w) } (.ref l) "dict" := ⟨_, hol, hcl⟩
        have hsls := sub_dict_set
        have hslf := sub_dict_frozenset
        unfold Builtin.«set.__init__» noKeywords
        generalize hU : @Builtin.Frozenset.updateFrom = U
        wp_walk
        subst hU
        refine update_dict0 hm hS hol hcl hdl ?_
        wp_walk
        exact ⟨rfl, rfl⟩
      · cases r₂ with
        | error e => exact hr₂
        | ok fl₂ =>
          cases fl₂ with
          | ret r =>
            obtain ⟨rfl, rfl⟩ := hr₂
            repeat (any_goals (first | assumption | wp_step))
          | _ => exact hr₂.elim
    | _ => exact hr.elim
theorem merge0 {d o : Addr} {each : Sem Unit} {ob : Obj} {es : Array (Int × Value)} {ep : Nat} {t : SetTable} {Q : Unit → Shared → Prop} (ne : d ≠ o) (ho : s.heap.get? o = some ob) (hd : ob.data = .set es ep t) (hf : t.fits es.size = true) (hn : es.size = 0) (h : Q () s) :
    wpAny (model P w) A (setMerge d o each) Q E s := by
  have e0 : es = #[] := Array.eq_empty_of_size_eq_zero hn
  subst e0
  have e1 : (d == o) = false := beq_eq_false_iff_ne.mpr ne
  unfold setMerge
  simp only [e1, Bool.false_eq_true, if_false]
  refine wpAny_bind (wpAny_setState_of ho hd hf ?_)
  wp_walk
  exact h
theorem update_set0 {id : String} {d o : Addr} {ob : Obj} {es : Array (Int × Value)} {ep : Nat} {t : SetTable} {Q : Unit → Shared → Prop} (ne : d ≠ o) (hT : s.TypeIs (.ref o) "set") (ho : s.heap.get? o = some ob) (hd : ob.data = .set es ep t) (hf : t.fits es.size = true) (hn : es.size = 0) (h : Q () s) :
    wpAny (model P w) A (Builtin.Frozenset.updateFrom id d (.ref o)) Q E s := by
  have hss := sub_set_self
  unfold Builtin.Frozenset.updateFrom Builtin.Frozenset.isAnySet Builtin.Frozenset.merge
  generalize hM : @setMerge = M
  generalize hP : @setEpoch = N
  wp_walk
  subst hM
  subst hP
  refine wpAny_setEpoch_of ho hd hf ?_
  refine merge0 ne ho hd hf hn ?_
  wp_walk
  exact h
theorem or_set0 {a b : Addr} {S S' : Int → Bool} {Q : Value → Shared → Prop} (Ra : SetR w s.heap a S 0) (Rb : SetR w s.heap b S' 0) (h : Q (.ref s.heap.objs.size) { s with heap := s.heap.push (newS w) }) :
    wpAny (model P w) A (binaryOp .BitOr (.ref a) (.ref b)) Q E s := by
  obtain ⟨oa, ea, epa, ta, ha, xa, da, _, _, _, _, fa, na, _⟩ := Ra
  obtain ⟨ob, eb, epb, tb, hb, xb, db, _, _, _, _, fb, nb, _⟩ := Rb
  have hTa : s.TypeIs (.ref a) "set" := ⟨_, ha, xa.1⟩
  have hTb : s.TypeIs (.ref b) "set" := ⟨_, hb, xb.1⟩
  refine wpAny_binaryOp_same (op := .BitOr) (T := "set") hTa hTb F.fills_set_or F.slot_set_or (wpAny_call_entry F.slot_set_or hTa entry_or ?_ (F.args_set_or_2 _ _))
  unfold Builtin.«frozenset.__or__»
  refine wpAny_bind (m := Builtin.Frozenset.slot1 "__or__" ⟨[.ref a, .ref b], []⟩) (wpAny_of_eq (a := (Value.ref a, Value.ref b)) (by rfl) ?_)
  simp only [Bool.false_eq_true, if_false]
  unfold Builtin.Frozenset.isAnySet
  have hss := sub_set_self
  wp_walk
  refine wpAny_askSetting (wpAny_pure ?_)
  dsimp only
  simp only [newObj, if_true]
  refine wpAny_bind (wpAny_alloc (wpAny_pure ?_))
  have ha' : (s.heap.push (newS w)).get? a = some oa := Heap.get?_push_of_some _ ha
  have hb' : (s.heap.push (newS w)).get? b = some ob := Heap.get?_push_of_some _ hb
  have hTb' : Shared.TypeIs { s with heap := s.heap.push (newS w) } (.ref b) "set" := ⟨_, hb', xb.1⟩
  have na' : s.heap.objs.size ≠ a := Nat.ne_of_gt (Heap.lt_size ha)
  have nb' : s.heap.objs.size ≠ b := Nat.ne_of_gt (Heap.lt_size hb)
  show wpAny _ _ (setMerge s.heap.objs.size a >>= fun _ => pure (Value.ref s.heap.objs.size)) _ _ _
  refine wpAny_bind (merge0 na' ha' da fa na (wpAny_pure ?_))
  by_cases e : (Value.ref b != Value.ref a) = true
  · rw [if_pos e]
    refine wpAny_bind (m := Builtin.Frozenset.addrOf (Value.ref s.heap.objs.size)) (wpAny_of_eq (a := s.heap.objs.size) (by rfl) ?_)
    refine wpAny_bind (wpAny_holding (update_set0 nb' hTb' hb' db fb nb ?_))
    wp_walk
    exact ⟨_, rfl, (by intro z; cases z), h⟩
  · rw [if_neg e]
    wp_walk
    exact ⟨_, rfl, (by intro z; cases z), h⟩
end
end S0
namespace L2
open PySem PySem.Spec PyProof.Rows L2
theorem lock_items0 {td : TE} {g : TG} {tb : TS} {D : Ends} {σ : St} {H : Hp} {d : Addr} (hd : H d = some (.dK [])) (hv : ∀ od Q, Q (.ref d) (upd H d (.frz od (.dK []))) → td σ (upd H d (.frz od (.dK []))) Q) (q : D.nx σ H) : tLock (tFor (iItems td) g tb) D σ H := by
  refine ⟨d, _, hd, trivial, fun od => hv od _ ⟨d, od, [], rfl, upd_same, ?_⟩⟩
  refine for_none ⟨upd_same, Nat.le_refl _⟩ ⟨upd_same, ?_⟩
  rw [upd_upd, upd_self hd]
  exact q
section
variable {X : Cx}
/-- the set of nothing at a -/
abbrev Set0 (w : World) (a : Addr) : HO := SetO w a (fun _ => false) 0
def NewS (w : World) (H : Hp) (Q : VK) : Prop := ∀ (p : Addr) (H' : Hp), Fr H p → Same H H' → H' p = some (Set0 w p) → Q (.ref p) H'
theorem set0_out {pins : List (Addr × Obj)} {σ : St} {H : Hp} {s : Shared} {Q : VK} (I : Inv X pins σ H s) (q : NewS X.w H Q) : EP X pins σ Q (.ref s.heap.objs.size) { s with heap := s.heap.push (S0.newS X.w) } :=
  ⟨.ref _, upd H s.heap.objs.size (Set0 X.w s.heap.objs.size), I.laid (t' := s.toks) (fun b u e => Heap.get?_push_of_some _ e) (Nat.le_refl _) (setO_new (setR_fresh X.w)), rfl, q _ _ (I.hok.fresh (Nat.le_refl _)) ((Same.refl H).new (I.hok.fresh (Nat.le_refl _))) upd_same⟩
def rSetD0 (w : World) : List V → Hp → VK → Prop := fun xs H Q => ∃ a : Addr, xs = [.ref a] ∧ H a = some (.dK []) ∧ NewS w H Q
theorem call_setD0 : CallR X (.type "set") (rSetD0 X.w) := by
  intro pins s σ H xs us Q I r q
  obtain ⟨a, ex, hd, q⟩ := q
  subst ex
  obtain ⟨u, eu, rx⟩ := vals1 r
  subst eu
  cases rx
  obtain ⟨z, lo, vs, rel, dd⟩ := dk_rd I.hok (.of hd)
  cases rel
  obtain ⟨od, es, ep, ho, hx, hdd, _, pr, _⟩ := dd
  have e0 : es = #[] := by
    cases hl : es.toList with
    | nil => exact Array.toList_eq_nil_iff.mp hl
    | cons e r =>
      rw [hl] at pr
      cases pr
  subst e0
  exact S0.call_set_dict0 lo ho hx.1 hdd (set0_out I q)
def rOrS0 (w : World) : R2 := fun x y H Q => ∃ a b : Addr, x = .ref a ∧ y = .ref b ∧ H a = some (Set0 w a) ∧ H b = some (Set0 w b) ∧ NewS w H Q
theorem op_orS0 : OpR X (binaryOp .BitOr) (rOrS0 X.w) := by
  intro pins s σ H x y v u Q I rx ry h
  obtain ⟨a, b, rfl, rfl, ha, hb, q⟩ := h
  cases rx
  cases ry
  exact S0.or_set0 (setO_get I ha) (setO_get I hb) (set0_out I q)
/-- sorted of such a set -/
def rSort0 (w : World) : List V → Hp → VK → Prop := fun xs H Q => ∃ a : Addr, xs = [.ref a] ∧ H a = some (Set0 w a) ∧ New (.lst []) H Q
theorem cr_sortedS0 (hc : X.calm = true) : CallR X (.builtin "sorted") (rSort0 X.w) := CallR.imp (cr_sortedSet hc) fun xs H Q ⟨a, e, h, q⟩ => ⟨a, _, 0, e, h, by decide, fun ns p _ _ hl hp => by
  cases ns with
  | nil => exact q.out p hp
  | cons _ _ => cases hl⟩
/- a method that lets an error out, called inside a try -/
section
variable {CX : CXT} {k : Nat} {f C : Addr} {fd : FuncData} {ps : List Str} {sp : Sp} {E : St → XK} {x m : Str} {p pos apos : Pos} {e o : Expr} {es : List Expr} {ta : TE} {t : TA}
def tMethE (C : Addr) (m : Str) (sp : Sp) (E : St → XK) (ta : TE) (t : TA) : TE := fun σ H Q => ta σ H fun x H1 => ∃ a dx fs, x = .ref a ∧ H1 a = some (.ins C dx fs) ∧ fs.lookup m = none ∧ t σ H1 fun vs H2 => sp (x :: vs) H2 Q (E σ)
theorem pe_methE {pl : Sem Bool} (he : PE X o ta) (c : Cls X.K C) (hm : Meth X.K C m f) (F : FnOk X.prog X.w X.K X.mg X.base CX k f fd ps sp) (hr : Room k X.A) (hb : Binds X.K fd ps []) (hx : ∀ σ, PassesAt CX X σ (E σ)) (ha : PA X (e :: es) t)
    (hst : starEach (e :: es) X.env = (false, eval e X.env) :: starEach es X.env := by rfl) (hpl : (backTo pos (starEach es X.env)).any (·.1) = false := by rfl)
    (ht : eval (.Call (.Attribute o m apos) (e :: es) [] pos) X.env = (do
      let ov ← eval o X.env
      standAt apos.atName
      let (f, first) ← holding [ov] (getMethod ov m pl)
      callWith pos f first (backTo pos (starEach (e :: es) X.env)) (backToKw pos (keywordEach [] X.env))) := by rfl) :
    PE X (.Call (.Attribute o m apos) (e :: es) [] pos) (tMethE C m sp E ta t) := by
  refine ⟨fun pins s σ H Q I h => ?_⟩
  refine PySem.W.methodCall_KW (pl := pl) (thn (he.run pins s σ H _ I h) fun u s1 ⟨x, H1, I1, rx, a, dx, fs, ex, ea, l, q⟩ => ?_) ht
  subst ex
  obtain rfl : u = Value.ref a := rx
  refine getmeth_ok I1 ea c hm l ?_
  refine PySem.W.callWith_K (first := [.ref a]) (h₀ := X.base) I.ok.mod.kin hm.kp (thn (ha.run pos pins s1 σ H1 _ I1 q) fun us s2 ⟨vs, H2, I2, r, q2⟩ => ⟨I2.kIn, ?_⟩) hst hpl
  exact run_fnS (us := .ref a :: us) (vs := .ref a :: vs) F hr hb (hx σ) I2 (.cons rfl r) q2
end
end
end L2

local macro_rules | `(tactic| walk_at "hp") => `(tactic| first
  | assumption
  | (apply L2.Same.at; assumption; walk_at "hp")
  | (apply L2.But.at; assumption; (walk_at "ne"); walk_at "hp")
  | (apply L2.But.kind; assumption; (walk_at "hp"); (walk_at "hp"); (intro z; cases z))
  | (apply L2.But2.at; assumption; (walk_at "ne"); (walk_at "ne"); walk_at "hp"))
local macro_rules | `(tactic| walk_at "ne") => `(tactic| first
  | assumption
  | exact Ne.symm (by assumption)
  | exact L2.neF (by assumption) (by walk_at "hp")
  | exact L2.neF2 (by assumption) (by walk_at "hp"))
local macro_rules | `(tactic| walk_at "sm") => `(tactic| first
  | exact L2.Same.refl _
  | assumption
  | (refine L2.Same.trans ?_ (by assumption); walk_at "sm")
  | (refine L2.Same.but ?_ (by assumption) (by walk_at "fr"); walk_at "sm"))
local macro_rules | `(tactic| walk_at "fr") => `(tactic| first
  | assumption
  | exact L2.Fr.back (by assumption) (by walk_at "sm"))
local macro_rules | `(tactic| walk_at "bt") => `(tactic| first
  | assumption
  | (refine L2.But.same ?_ (by assumption); walk_at "bt")
  | exact L2.But.before (by assumption) (by walk_at "sm")
  | (refine L2.But.trans ?_ (by assumption); walk_at "bt"))
local macro_rules | `(tactic| walk_at "b2") => `(tactic| first
  | assumption
  | exact L2.But2.refl
  | (refine L2.But2.trans ?_ (L2.Same.two (by assumption)); walk_at "b2")
  | (refine L2.But2.trans ?_ (L2.But.two (by assumption)); walk_at "b2")
  | (refine L2.But2.trans ?_ (L2.But.two' (by assumption)); walk_at "b2")
  | (refine L2.But2.trans ?_ (by assumption); walk_at "b2"))
local macro_rules | `(tactic| walk_at "sz") => `(tactic| first
  | exact Nat.le_of_ble_eq_true rfl
  | ((try simp only [List.length_append, List.length_map, List.length_cons, List.length_nil, List.length_take, List.length_drop, List.length_dropLast, List.length_reverse]); omega))
local macro_rules | `(tactic| walk_at "at") => `(tactic| first
  | rfl
  | assumption
  | exact L2.atI_nat (by first | rfl | assumption))
/-! ### the words of a reading: sd a side condition, rd one step, rds as many as go by themselves, ri a test -/
local macro_rules | `(tactic| walk_at "sd") => `(tactic| first
  | omega
  | (show (0 : Int) < _; omega)
  | (show (0 : Int) ≤ _; omega)
  | exact .inl ⟨by omega, by omega⟩
  | exact .inr ⟨by omega, by omega⟩
  | exact ⟨by decide, by decide⟩
  | exact ⟨by omega, by omega⟩
  | exact L2.small_size (Nat.le_of_ble_eq_true rfl)
  | exact L2.wide_div (b := 64) (by omega) (by omega) (by decide) (by decide)
  | assumption
  | exact ⟨_, by assumption⟩
  | exact .of (by walk_at "hp")
  | exact .inl (.of (by walk_at "hp"))
  | exact .inr (.of (by walk_at "hp"))
  | walk_at "hp"
  | exact L2.szlt (by walk_at "sz"))
local macro_rules | `(tactic| walk_at "rd") => `(tactic| first
  | refine ⟨_, rfl, ?_⟩
  | refine ⟨_, _, rfl, rfl, ?_⟩
  | refine ⟨_, _, rfl, ?_⟩
  | refine ⟨_, _, _, rfl, ?_⟩
  | refine ⟨_, _, _, _, rfl, ?_⟩
  | refine ⟨_, _, _, _, _, rfl, ?_⟩
  | refine ⟨_, _, _, _, _, _, rfl, ?_⟩
  | refine ⟨rfl, ?_⟩
  | refine L2.iteF ?_
  | refine L2.iteT ?_
  | refine And.intro (by walk_at "sd") ?_
  | refine ⟨_, _, _, _, true, rfl, .ty _, .base (.int _), L2.kit_ty (by decide +kernel), ?_⟩
  | refine ⟨_, _, _, _, false, rfl, .ty _, .base (.int _), L2.kit_ty (by decide +kernel), ?_⟩
  | refine ⟨_, _, _, _, true, rfl, .ty _, .base (.bl _), L2.kit_ty (by decide +kernel), ?_⟩
  | refine ⟨_, _, _, _, false, rfl, .ty _, .base (.bl _), L2.kit_ty (by decide +kernel), ?_⟩
  | refine ⟨_, _, _, _, true, rfl, .ty _, .base (.str _), L2.kit_ty (by decide +kernel), ?_⟩
  | refine ⟨_, _, _, _, false, rfl, .ty _, .base (.str _), L2.kit_ty (by decide +kernel), ?_⟩
  | refine ⟨_, _, _, _, true, rfl, .ty _, .base .non, L2.kit_ty (by decide +kernel), ?_⟩
  | refine ⟨_, _, _, _, false, rfl, .ty _, .base .non, L2.kit_ty (by decide +kernel), ?_⟩)
local macro_rules | `(tactic| walk_at "rds") => `(tactic| repeat walk_at "rd")
local macro_rules | `(tactic| walk_at "rz") => `(tactic| repeat first
  | walk_at "rd"
  | refine fun (_ : Int) => ?_
  | refine fun (_ : (_ : Int) ≤ _) => ?_
  | refine fun (_ : (_ : Int) < _) => ?_)
local macro_rules | `(tactic| walk_at "ri") => `(tactic| first
  | refine L2.iteV ?_ ?_
  | refine L2.iteNV ?_ ?_
  | refine L2.iteD ?_ ?_
  | refine L2.iteND ?_ ?_
  | refine L2.iteB ?_ ?_)
local macro_rules | `(tactic| walk_at "nf") => `(tactic| try dsimp only [L2.start, List.set_cons_zero, List.set_cons_succ])
local macro_rules | `(tactic| walk_at "g94len") => `(tactic| (intro vs H Q E h; first
  | exact False.elim h
  | (obtain ⟨e, _⟩ := h; exact congrArg List.length e)
  | (obtain ⟨_, e, _⟩ := h; exact congrArg List.length e)
  | (obtain ⟨_, _, e, _⟩ := h; exact congrArg List.length e)
  | (obtain ⟨_, _, _, e, _⟩ := h; exact congrArg List.length e)
  | (obtain ⟨_, _, _, _, e, _⟩ := h; exact congrArg List.length e)
  | (obtain ⟨_, _, _, _, _, e, _⟩ := h; exact congrArg List.length e)
  | (obtain ⟨_, _, _, _, _, _, e, _⟩ := h; exact congrArg List.length e)
  | (obtain ⟨_, _, _, _, _, _, _, e, _⟩ := h; exact congrArg List.length e)
  | (obtain ⟨_, _, _, _, _, _, _, _, e, _⟩ := h; exact congrArg List.length e)
  | (obtain ⟨_, _, _, _, _, _, _, _, _, e, _⟩ := h; exact congrArg List.length e)
  | (obtain ⟨_, _, _, _, _, _, _, _, _, _, e, _⟩ := h; exact congrArg List.length e)
  | (obtain ⟨_, _, _, _, _, _, _, _, _, _, _, e, _⟩ := h; exact congrArg List.length e)
  | (obtain ⟨_, _, _, _, _, _, _, _, _, _, _, _, e, _⟩ := h; exact congrArg List.length e)
  | (obtain ⟨_, _, _, _, _, _, _, _, _, _, _, _, _, e, _⟩ := h; exact congrArg List.length e)
  | (obtain ⟨_, _, _, _, _, _, _, _, _, _, _, _, _, _, e, _⟩ := h; exact congrArg List.length e)))
local macro_rules | `(tactic| walk_at "g94tr") => `(tactic| (set_option pp.deepTerms false in set_option pp.deepTerms.threshold 8 in trace_state))
local macro_rules | `(tactic| walk_at "wk") => `(tactic| first
  | walk_at "rd"
  | refine ⟨_, _, _, _, rfl, rfl, .of (by walk_at "hp"), (by walk_at "at"), ?_⟩
  | refine ⟨_, _, _, _, _, rfl, (by walk_at "hp"), (by assumption), (by assumption), (by walk_at "lk"), ?_⟩
  | refine ⟨_, _, _, rfl, rfl, (by walk_at "hp"), L2.szlt (by walk_at "sz"), ?_⟩
  | refine ⟨_, _, _, rfl, (by walk_at "hp"), (by walk_at "lk"), ?_⟩
  | refine ⟨_, _, _, _, rfl, (by walk_at "hp"), (by assumption), (by assumption), Nat.le_of_ble_eq_true rfl, _, (by walk_at "pf"), ?_⟩
  | refine ⟨_, _, _, _, true, rfl, .ty _, .base (.lst (by walk_at "hp")), L2.kit_ty (by decide +kernel), ?_⟩
  | refine ⟨_, _, _, _, true, rfl, .ty _, .base (.tup (by walk_at "hp")), L2.kit_ty (by decide +kernel), ?_⟩
  | refine ⟨_, _, _, _, true, rfl, .ty _, .base (.dK (by walk_at "hp")), L2.kit_ty (by decide +kernel), ?_⟩
  | refine ⟨_, _, _, rfl, (by walk_at "hp"), ?_⟩
  | refine ⟨_, _, rfl, (by walk_at "hp"), ?_⟩
  | refine ⟨.inl ⟨rfl, _, .of (by walk_at "hp")⟩, ?_⟩
  | refine ⟨_, _, rfl, .inl (.of (by walk_at "hp")), ?_⟩
  | refine ⟨_, _, rfl, .of (by walk_at "hp"), ?_⟩
  | refine ⟨_, _, _, _, rfl, rfl, (by walk_at "hp"), (by walk_at "hp"), L2.small_size (by walk_at "sz"), ?_⟩
  | refine ⟨_, _, _, rfl, rfl, (by walk_at "hp"), ⟨by decide, by decide, L2.small_size (by walk_at "sz")⟩, ?_⟩
  | refine fun p H' (f : L2.Fr _ _) (s : L2.Same _ _) (h : _ = some _) => ?_
  | refine fun H' (m : L2.But _ _ _) (h : _ = some _) => ?_)
local macro_rules | `(tactic| walk_at "wks") => `(tactic| repeat walk_at "wk")
local macro_rules | `(tactic| walk_at "lk") => `(tactic| first
  | exact L2.lkE (by decide +kernel)
  | exact L2.lkN (by decide +kernel) (by walk_at "lk")
  | rfl
  | assumption)
local macro_rules | `(tactic| walk_at "pf") => `(tactic| first
  | exact L2.pfNil
  | exact L2.pfE (by decide +kernel)
  | exact L2.pfN (by decide +kernel) (by walk_at "pf"))
namespace G94
open PySem PySem.Spec PyProof.Rows L2
def top (i : Nat) : Stmt := PySem.Challenge.pw_lampcues_k41_numbers_come_to.main.body.getD i (.Pass ⟨0, 0, 0, 0⟩)
abbrev s_is_time : Stmt := top 14
theorem sc_is_time : FnScope ["thing"] ["thing"] (defScope s_is_time) := ⟨rfl, rfl, rfl, by decide +kernel, rfl, by decide +kernel, by decide +kernel⟩
abbrev s_is_amid : Stmt := top 19
theorem sc_is_amid : FnScope ["thing", "least", "most"] ["thing", "least", "most"] (defScope s_is_amid) := ⟨rfl, rfl, rfl, by decide +kernel, rfl, by decide +kernel, by decide +kernel⟩
abbrev s_is_lamp : Stmt := top 20
theorem sc_is_lamp : FnScope ["thing", "sign"] ["thing"] (defScope s_is_lamp) := ⟨rfl, rfl, rfl, by decide +kernel, rfl, by decide +kernel, by decide +kernel⟩
abbrev s_is_slot : Stmt := top 21
theorem sc_is_slot : FnScope ["thing"] ["thing"] (defScope s_is_slot) := ⟨rfl, rfl, rfl, by decide +kernel, rfl, by decide +kernel, by decide +kernel⟩
abbrev s_is_worth : Stmt := top 22
theorem sc_is_worth : FnScope ["thing"] ["thing"] (defScope s_is_worth) := ⟨rfl, rfl, rfl, by decide +kernel, rfl, by decide +kernel, by decide +kernel⟩
abbrev s_look_at_slots : Stmt := top 23
theorem sc_look_at_slots : FnScope ["told", "slot"] ["told"] (defScope s_look_at_slots) := ⟨rfl, rfl, rfl, by decide +kernel, rfl, by decide +kernel, by decide +kernel⟩
abbrev s_look_at_worths : Stmt := top 24
theorem sc_look_at_worths : FnScope ["told", "worth"] ["told"] (defScope s_look_at_worths) := ⟨rfl, rfl, rfl, by decide +kernel, rfl, by decide +kernel, by decide +kernel⟩
abbrev s_Part_init : Stmt := inClass (top 25) 0
theorem sc_Part_init : FnScope ["self", "tells", "alone", "rise", "fall", "wait"] ["self", "tells", "alone", "rise", "fall", "wait"] (defScope s_Part_init) := ⟨rfl, rfl, rfl, by decide +kernel, rfl, by decide +kernel, by decide +kernel⟩
abbrev s_Part_slots : Stmt := inClass (top 25) 2
theorem sc_Part_slots : FnScope ["self", "slot"] ["self"] (defScope s_Part_slots) := ⟨rfl, rfl, rfl, by decide +kernel, rfl, by decide +kernel, by decide +kernel⟩
abbrev s_are_parts : Stmt := top 26
theorem sc_are_parts : FnScope ["parts", "told", "part", "slot"] ["parts"] (defScope s_are_parts) := ⟨rfl, rfl, rfl, by decide +kernel, rfl, by decide +kernel, by decide +kernel⟩
abbrev s_Cue_init : Stmt := inClass (top 27) 0
theorem sc_Cue_init : FnScope ["self", "number", "parts", "stops", "follow"] ["self", "number", "parts", "stops", "follow"] (defScope s_Cue_init) := ⟨rfl, rfl, rfl, by decide +kernel, rfl, by decide +kernel, by decide +kernel⟩
abbrev s_cue_list : Stmt := top 28
theorem sc_cue_list : FnScope ["cues", "last", "cue"] ["cues"] (defScope s_cue_list) := ⟨rfl, rfl, rfl, by decide +kernel, rfl, by decide +kernel, by decide +kernel⟩
abbrev s_good_number : Stmt := top 30
theorem sc_good_number : FnScope ["number"] ["number"] (defScope s_good_number) := ⟨rfl, rfl, rfl, by decide +kernel, rfl, by decide +kernel, by decide +kernel⟩
abbrev s_cue_at : Stmt := top 32
theorem sc_cue_at : FnScope ["cues", "number", "there", "asked", "cue"] ["cues", "number"] (defScope s_cue_at) := ⟨rfl, rfl, rfl, by decide +kernel, rfl, by decide +kernel, by decide +kernel⟩
abbrev s_above : Stmt := top 35
theorem sc_above : FnScope ["cues", "number", "there", "asked", "cue"] ["cues", "number"] (defScope s_above) := ⟨rfl, rfl, rfl, by decide +kernel, rfl, by decide +kernel, by decide +kernel⟩
abbrev s_below : Stmt := top 36
theorem sc_below : FnScope ["cues", "number", "there", "asked", "found", "cue"] ["cues", "number"] (defScope s_below) := ⟨rfl, rfl, rfl, by decide +kernel, rfl, by decide +kernel, by decide +kernel⟩
abbrev s_put_in_look : Stmt := top 31
theorem sc_put_in_look : FnScope ["look", "told", "slot", "worth"] ["look", "told"] (defScope s_put_in_look) := ⟨rfl, rfl, rfl, by decide +kernel, rfl, by decide +kernel, by decide +kernel⟩
abbrev s_carried : Stmt := top 33
theorem sc_carried : FnScope ["cues", "number", "there", "asked", "look", "cue", "part"] ["cues", "number"] (defScope s_carried) := ⟨rfl, rfl, rfl, by decide +kernel, rfl, by decide +kernel, by decide +kernel⟩
abbrev s_shown : Stmt := top 34
theorem sc_shown : FnScope ["cues", "number", "look", "cue", "part"] ["cues", "number"] (defScope s_shown) := ⟨rfl, rfl, rfl, by decide +kernel, rfl, by decide +kernel, by decide +kernel⟩
abbrev s_fades_at : Stmt := top 39
theorem sc_fades_at : FnScope ["clock", "cues", "number", "word", "aims", "look", "found", "slot", "worth", "wait", "rise", "fall"] ["clock", "cues", "number", "word", "aims"] (defScope s_fades_at) := ⟨rfl, rfl, rfl, by decide +kernel, rfl, by decide +kernel, by decide +kernel⟩
abbrev s_Run_init : Stmt := inClass (top 42) 0
theorem sc_Run_init : FnScope ["self", "cues"] ["self", "cues"] (defScope s_Run_init) := ⟨rfl, rfl, rfl, by decide +kernel, rfl, by decide +kernel, by decide +kernel⟩
abbrev s_Run_clock_of : Stmt := inClass (top 42) 1
theorem sc_Run_clock_of : FnScope ["self", "top", "bottom"] ["self", "top", "bottom"] (defScope s_Run_clock_of) := ⟨rfl, rfl, rfl, by decide +kernel, rfl, by decide +kernel, by decide +kernel⟩
abbrev s_Run_follow_ons : Stmt := inClass (top 42) 2
theorem sc_Run_follow_ons : FnScope ["self", "clock", "found", "number", "due", "following", "follow"] ["self", "clock"] (defScope s_Run_follow_ons) := ⟨rfl, rfl, rfl, by decide +kernel, rfl, by decide +kernel, by decide +kernel⟩
abbrev s_Run_number_at : Stmt := inClass (top 42) 14
theorem sc_Run_number_at : FnScope ["self", "top", "bottom"] ["self", "top", "bottom"] (defScope s_Run_number_at) := ⟨rfl, rfl, rfl, by decide +kernel, rfl, by decide +kernel, by decide +kernel⟩
abbrev s_Run_come : Stmt := inClass (top 42) 4
theorem sc_Run_come : FnScope ["self", "clock", "number", "word", "fade"] ["self", "clock", "number", "word"] (defScope s_Run_come) := ⟨rfl, rfl, rfl, by decide +kernel, rfl, by decide +kernel, by decide +kernel⟩
abbrev s_Run_take : Stmt := inClass (top 42) 5
theorem sc_Run_take : FnScope ["self", "tick", "clock", "came", "number", "due", "when", "each"] ["self", "tick"] (defScope s_Run_take) := ⟨rfl, rfl, rfl, by decide +kernel, rfl, by decide +kernel, by decide +kernel⟩
abbrev s_Run_march : Stmt := inClass (top 42) 6
theorem sc_Run_march : FnScope ["self", "tick", "number", "word", "follow"] ["self", "tick", "number", "word"] (defScope s_Run_march) := ⟨rfl, rfl, rfl, by decide +kernel, rfl, by decide +kernel, by decide +kernel⟩
abbrev s_Run_go : Stmt := inClass (top 42) 7
theorem sc_Run_go : FnScope ["self", "tick", "number"] ["self", "tick"] (defScope s_Run_go) := ⟨rfl, rfl, rfl, by decide +kernel, rfl, by decide +kernel, by decide +kernel⟩
abbrev s_Run_back : Stmt := inClass (top 42) 8
theorem sc_Run_back : FnScope ["self", "tick", "number"] ["self", "tick"] (defScope s_Run_back) := ⟨rfl, rfl, rfl, by decide +kernel, rfl, by decide +kernel, by decide +kernel⟩
abbrev s_Run_goto : Stmt := inClass (top 42) 9
theorem sc_Run_goto : FnScope ["self", "tick", "number"] ["self", "tick", "number"] (defScope s_Run_goto) := ⟨rfl, rfl, rfl, by decide +kernel, rfl, by decide +kernel, by decide +kernel⟩
abbrev s_Run_change : Stmt := inClass (top 42) 12
theorem sc_Run_change : FnScope ["self", "tick", "cues", "fresh"] ["self", "tick", "cues"] (defScope s_Run_change) := ⟨rfl, rfl, rfl, by decide +kernel, rfl, by decide +kernel, by decide +kernel⟩
abbrev s_l_cell_at : Stmt := top 44
theorem sc_l_cell_at : FnScope ["_law_script", "_law_k"] ["_law_script", "_law_k"] (defScope s_l_cell_at) := ⟨rfl, rfl, rfl, by decide +kernel, rfl, by decide +kernel, by decide +kernel⟩
abbrev s_l_whole : Stmt := top 45
theorem sc_l_whole : FnScope ["_law_found"] ["_law_found"] (defScope s_l_whole) := ⟨rfl, rfl, rfl, by decide +kernel, rfl, by decide +kernel, by decide +kernel⟩
abbrev s_l_draw : Stmt := top 46
theorem sc_l_draw : FnScope ["_law_cell", "_law_place", "_law_own", "_law_number"] ["_law_cell", "_law_place"] (defScope s_l_draw) := ⟨rfl, rfl, rfl, by decide +kernel, rfl, by decide +kernel, by decide +kernel⟩
abbrev s_l_rest : Stmt := top 47
theorem sc_l_rest : FnScope ["_law_cell"] ["_law_cell"] (defScope s_l_rest) := ⟨rfl, rfl, rfl, by decide +kernel, rfl, by decide +kernel, by decide +kernel⟩
abbrev s_l_numbers : Stmt := top 48
theorem sc_l_numbers : FnScope ["_law_cell", "_law_wide", "_law_found", "_law_number", "_law_k"] ["_law_cell", "_law_wide"] (defScope s_l_numbers) := ⟨rfl, rfl, rfl, by decide +kernel, rfl, by decide +kernel, by decide +kernel⟩
abbrev s_l_cues : Stmt := top 49
theorem sc_l_cues : FnScope ["_law_numbers_here", "_law_number"] ["_law_numbers_here"] (defScope s_l_cues) := ⟨rfl, rfl, rfl, by decide +kernel, rfl, by decide +kernel, by decide +kernel⟩
abbrev s_l_goal : Stmt := top 50
theorem sc_l_goal : FnScope ["_law_numbers_here", "_law_here", "_law_word", "_law_to", "_law_number"] ["_law_numbers_here", "_law_here", "_law_word", "_law_to"] (defScope s_l_goal) := ⟨rfl, rfl, rfl, by decide +kernel, rfl, by decide +kernel, by decide +kernel⟩
abbrev s_l_deed : Stmt := top 51
theorem sc_l_deed : FnScope ["_law_run", "_law_word", "_law_tick", "_law_to", "_law_found"] ["_law_run", "_law_word", "_law_tick", "_law_to"] (defScope s_l_deed) := ⟨rfl, rfl, rfl, by decide +kernel, rfl, by decide +kernel, by decide +kernel⟩
abbrev s_l_stands : Stmt := top 52
theorem sc_l_stands : FnScope ["_law_run", "_law_tick", "_law_here", "_law_found"] ["_law_run", "_law_tick", "_law_here"] (defScope s_l_stands) := ⟨rfl, rfl, rfl, by decide +kernel, rfl, by decide +kernel, by decide +kernel⟩
abbrev s_law : Stmt := top 53
theorem sc_law : FnScope ["_law_script", "_law_wide", "_law_numbers_here", "_law_run", "_law_here", "_law_tick", "_law_deeds", "_law_k", "_law_draw_here", "_law_word", "_law_some", "_law_to", "_law_due", "_law_found", "_law_cell"] ["_law_script"] (defScope s_law) := ⟨rfl, rfl, rfl, by decide +kernel, rfl, by decide +kernel, by decide +kernel⟩
def d_is_time : He.DefD := ⟨("is_time", none), "is_time", "is_time", defArgs s_is_time, defBody s_is_time, defScope s_is_time, [], []⟩
def d_is_amid : He.DefD := ⟨("is_amid", none), "is_amid", "is_amid", defArgs s_is_amid, defBody s_is_amid, defScope s_is_amid, [], []⟩
def d_is_lamp : He.DefD := ⟨("is_lamp", none), "is_lamp", "is_lamp", defArgs s_is_lamp, defBody s_is_lamp, defScope s_is_lamp, [], []⟩
def d_is_slot : He.DefD := ⟨("is_slot", none), "is_slot", "is_slot", defArgs s_is_slot, defBody s_is_slot, defScope s_is_slot, [], []⟩
def d_is_worth : He.DefD := ⟨("is_worth", none), "is_worth", "is_worth", defArgs s_is_worth, defBody s_is_worth, defScope s_is_worth, [], []⟩
def d_look_at_slots : He.DefD := ⟨("look_at_slots", none), "look_at_slots", "look_at_slots", defArgs s_look_at_slots, defBody s_look_at_slots, defScope s_look_at_slots, [], []⟩
def d_look_at_worths : He.DefD := ⟨("look_at_worths", none), "look_at_worths", "look_at_worths", defArgs s_look_at_worths, defBody s_look_at_worths, defScope s_look_at_worths, [], []⟩
def d_Part_init : He.DefD := ⟨("Part", some "__init__"), "__init__", "Part.__init__", defArgs s_Part_init, defBody s_Part_init, defScope s_Part_init, [.int 0, .int 0, .int 0], []⟩
def d_Part_slots : He.DefD := ⟨("Part", some "slots"), "slots", "Part.slots", defArgs s_Part_slots, defBody s_Part_slots, defScope s_Part_slots, [], []⟩
def d_are_parts : He.DefD := ⟨("are_parts", none), "are_parts", "are_parts", defArgs s_are_parts, defBody s_are_parts, defScope s_are_parts, [], []⟩
def d_Cue_init : He.DefD := ⟨("Cue", some "__init__"), "__init__", "Cue.__init__", defArgs s_Cue_init, defBody s_Cue_init, defScope s_Cue_init, [.bl false, .non], []⟩
def d_cue_list : He.DefD := ⟨("cue_list", none), "cue_list", "cue_list", defArgs s_cue_list, defBody s_cue_list, defScope s_cue_list, [], []⟩
def d_good_number : He.DefD := ⟨("good_number", none), "good_number", "good_number", defArgs s_good_number, defBody s_good_number, defScope s_good_number, [], []⟩
def d_cue_at : He.DefD := ⟨("cue_at", none), "cue_at", "cue_at", defArgs s_cue_at, defBody s_cue_at, defScope s_cue_at, [], []⟩
def d_above : He.DefD := ⟨("above", none), "above", "above", defArgs s_above, defBody s_above, defScope s_above, [], []⟩
def d_below : He.DefD := ⟨("below", none), "below", "below", defArgs s_below, defBody s_below, defScope s_below, [], []⟩
def d_put_in_look : He.DefD := ⟨("put_in_look", none), "put_in_look", "put_in_look", defArgs s_put_in_look, defBody s_put_in_look, defScope s_put_in_look, [], []⟩
def d_carried : He.DefD := ⟨("carried", none), "carried", "carried", defArgs s_carried, defBody s_carried, defScope s_carried, [], []⟩
def d_shown : He.DefD := ⟨("shown", none), "shown", "shown", defArgs s_shown, defBody s_shown, defScope s_shown, [], []⟩
def d_fades_at : He.DefD := ⟨("fades_at", none), "fades_at", "fades_at", defArgs s_fades_at, defBody s_fades_at, defScope s_fades_at, [], []⟩
def d_Run_init : He.DefD := ⟨("Run", some "__init__"), "__init__", "Run.__init__", defArgs s_Run_init, defBody s_Run_init, defScope s_Run_init, [], []⟩
def d_Run_clock_of : He.DefD := ⟨("Run", some "clock_of"), "clock_of", "Run.clock_of", defArgs s_Run_clock_of, defBody s_Run_clock_of, defScope s_Run_clock_of, [], []⟩
def d_Run_follow_ons : He.DefD := ⟨("Run", some "follow_ons"), "follow_ons", "Run.follow_ons", defArgs s_Run_follow_ons, defBody s_Run_follow_ons, defScope s_Run_follow_ons, [], []⟩
def d_Run_number_at : He.DefD := ⟨("Run", some "number_at"), "number_at", "Run.number_at", defArgs s_Run_number_at, defBody s_Run_number_at, defScope s_Run_number_at, [.int 1], []⟩
def d_Run_come : He.DefD := ⟨("Run", some "come"), "come", "Run.come", defArgs s_Run_come, defBody s_Run_come, defScope s_Run_come, [], []⟩
def d_Run_take : He.DefD := ⟨("Run", some "take"), "take", "Run.take", defArgs s_Run_take, defBody s_Run_take, defScope s_Run_take, [], []⟩
def d_Run_march : He.DefD := ⟨("Run", some "march"), "march", "Run.march", defArgs s_Run_march, defBody s_Run_march, defScope s_Run_march, [], []⟩
def d_Run_go : He.DefD := ⟨("Run", some "go"), "go", "Run.go", defArgs s_Run_go, defBody s_Run_go, defScope s_Run_go, [], []⟩
def d_Run_back : He.DefD := ⟨("Run", some "back"), "back", "Run.back", defArgs s_Run_back, defBody s_Run_back, defScope s_Run_back, [], []⟩
def d_Run_goto : He.DefD := ⟨("Run", some "goto"), "goto", "Run.goto", defArgs s_Run_goto, defBody s_Run_goto, defScope s_Run_goto, [], []⟩
def d_Run_change : He.DefD := ⟨("Run", some "change"), "change", "Run.change", defArgs s_Run_change, defBody s_Run_change, defScope s_Run_change, [], []⟩
def d_l_cell_at : He.DefD := ⟨("_law_cell_at", none), "_law_cell_at", "_law_cell_at", defArgs s_l_cell_at, defBody s_l_cell_at, defScope s_l_cell_at, [], []⟩
def d_l_whole : He.DefD := ⟨("_law_whole", none), "_law_whole", "_law_whole", defArgs s_l_whole, defBody s_l_whole, defScope s_l_whole, [], []⟩
def d_l_draw : He.DefD := ⟨("_law_draw", none), "_law_draw", "_law_draw", defArgs s_l_draw, defBody s_l_draw, defScope s_l_draw, [], []⟩
def d_l_rest : He.DefD := ⟨("_law_rest", none), "_law_rest", "_law_rest", defArgs s_l_rest, defBody s_l_rest, defScope s_l_rest, [], []⟩
def d_l_numbers : He.DefD := ⟨("_law_numbers", none), "_law_numbers", "_law_numbers", defArgs s_l_numbers, defBody s_l_numbers, defScope s_l_numbers, [], []⟩
def d_l_cues : He.DefD := ⟨("_law_cues", none), "_law_cues", "_law_cues", defArgs s_l_cues, defBody s_l_cues, defScope s_l_cues, [], []⟩
def d_l_goal : He.DefD := ⟨("_law_goal", none), "_law_goal", "_law_goal", defArgs s_l_goal, defBody s_l_goal, defScope s_l_goal, [], []⟩
def d_l_deed : He.DefD := ⟨("_law_deed", none), "_law_deed", "_law_deed", defArgs s_l_deed, defBody s_l_deed, defScope s_l_deed, [], []⟩
def d_l_stands : He.DefD := ⟨("_law_stands", none), "_law_stands", "_law_stands", defArgs s_l_stands, defBody s_l_stands, defScope s_l_stands, [], []⟩
def d_law : He.DefD := ⟨("law", none), "law", "law", defArgs s_law, defBody s_law, defScope s_law, [], []⟩
def fn : List He.DefD := [d_is_time, d_is_amid, d_is_lamp, d_is_slot, d_is_worth, d_look_at_slots, d_look_at_worths, d_Part_init, d_Part_slots, d_are_parts, d_Cue_init, d_cue_list, d_good_number, d_cue_at, d_above, d_below, d_put_in_look, d_carried, d_shown, d_fades_at, d_Run_init, d_Run_clock_of, d_Run_follow_ons, d_Run_number_at, d_Run_come, d_Run_take, d_Run_march, d_Run_go, d_Run_back, d_Run_goto, d_Run_change, d_l_cell_at, d_l_whole, d_l_draw, d_l_rest, d_l_numbers, d_l_cues, d_l_goal, d_l_deed, d_l_stands, d_law]
def fa : List He.Fa := [.glo "is_time", .glo "is_amid", .glo "is_lamp", .glo "is_slot", .glo "is_worth", .glo "look_at_slots", .glo "look_at_worths", .glo "are_parts", .glo "cue_list", .glo "good_number", .glo "cue_at", .glo "above", .glo "below", .glo "put_in_look", .glo "carried", .glo "shown", .glo "fades_at", .glo "_law_cell_at", .glo "_law_whole", .glo "_law_draw", .glo "_law_rest", .glo "_law_numbers", .glo "_law_cues", .glo "_law_goal", .glo "_law_deed", .glo "_law_stands", .glo "law", .glo "Part", .glo "Cue", .glo "Run", .glo "NoCue", .glo "SIDES", .free "len", .free "min", .free "max", .free "isinstance", .free "int", .free "bool", .free "range", .free "list", .free "dict", .free "str", .free "tuple", .free "sorted", .free "set", .free "sum", .int "MOST_times" 1000000000, .str "LETTERS" "abcdefghijklmnopqrstuvwxyz", .int "MOST_cues" 1000000000, .exc "NoCue", .exm "NoCue" "NoCue" true, .cls "Part", .mkr "Part", .noat "Part" "tells", .noat "Part" "alone", .noat "Part" "rise", .noat "Part" "fall", .noat "Part" "wait", .meth "Part" "slots", .cls "Cue", .mkr "Cue", .noat "Cue" "number", .noat "Cue" "parts", .noat "Cue" "stops", .noat "Cue" "follow", .cls "Run", .mkr "Run", .noat "Run" "cues", .noat "Run" "number", .noat "Run" "due", .noat "Run" "tick", .noat "Run" "showed", .noat "Run" "going", .noat "Run" "aims", .noat "Run" "motions", .meth "Run" "clock_of", .meth "Run" "follow_ons", .meth "Run" "come", .meth "Run" "take", .meth "Run" "march", .meth "Run" "go", .meth "Run" "back", .meth "Run" "goto", .meth "Run" "change", .meth "Run" "number_at"]
def exL (K : PySem.W.Frag) : List Bool := [He.tupB K "SIDES" [.str "blue", .str "bright", .str "green", .str "pan", .str "red", .str "tilt"],
  L2.insB K "Cue",
  L2.insB K "Part",
  L2.excB K "NoCue"]
def exB (K : PySem.W.Frag) : Bool := (exL K).all id
/-- what the top leaves -/
structure Txt (K : PySem.W.Frag) (mg : Str → Option Value) : Prop where
  c : He.SaysD fa fn K
  hp : ∃ h : Heap, K.In h ∧ h.Ns mainGlobals mg
  x : exB K = true
section
variable {K : PySem.W.Frag} {mg : Str → Option Value}
theorem tup_SIDES (T : Txt K mg) (H : L2.Hp) : L2.SqT K H (He.ga K "SIDES") [L2.V.str "blue", L2.V.str "bright", L2.V.str "green", L2.V.str "pan", L2.V.str "red", L2.V.str "tilt"] := He.tupB_ok (List.all_eq_true.mp T.x _ (List.mem_of_getElem? (i := 0) rfl)) H
theorem insf_Cue (T : Txt K mg) : L2.insB K "Cue" = true := (List.all_eq_true.mp T.x _ (List.mem_of_getElem? (i := 1) rfl))
theorem insf_Part (T : Txt K mg) : L2.insB K "Part" = true := (List.all_eq_true.mp T.x _ (List.mem_of_getElem? (i := 2) rfl))
theorem excC_NoCue (T : Txt K mg) : L2.ExcC K (He.ga K "NoCue") := L2.excB_ok (List.all_eq_true.mp T.x _ (List.mem_of_getElem? (i := 3) rfl))
theorem glo_is_time (T : Txt K mg) : mg "is_time" = some (.ref (He.ga K "is_time")) := by
  obtain ⟨h, X, G⟩ := T.hp
  exact He.glo_ok X G (T.c.fact 0 rfl)
theorem glo_is_amid (T : Txt K mg) : mg "is_amid" = some (.ref (He.ga K "is_amid")) := by
  obtain ⟨h, X, G⟩ := T.hp
  exact He.glo_ok X G (T.c.fact 1 rfl)
theorem glo_is_lamp (T : Txt K mg) : mg "is_lamp" = some (.ref (He.ga K "is_lamp")) := by
  obtain ⟨h, X, G⟩ := T.hp
  exact He.glo_ok X G (T.c.fact 2 rfl)
theorem glo_is_slot (T : Txt K mg) : mg "is_slot" = some (.ref (He.ga K "is_slot")) := by
  obtain ⟨h, X, G⟩ := T.hp
  exact He.glo_ok X G (T.c.fact 3 rfl)
theorem glo_is_worth (T : Txt K mg) : mg "is_worth" = some (.ref (He.ga K "is_worth")) := by
  obtain ⟨h, X, G⟩ := T.hp
  exact He.glo_ok X G (T.c.fact 4 rfl)
theorem glo_look_at_slots (T : Txt K mg) : mg "look_at_slots" = some (.ref (He.ga K "look_at_slots")) := by
  obtain ⟨h, X, G⟩ := T.hp
  exact He.glo_ok X G (T.c.fact 5 rfl)
theorem glo_look_at_worths (T : Txt K mg) : mg "look_at_worths" = some (.ref (He.ga K "look_at_worths")) := by
  obtain ⟨h, X, G⟩ := T.hp
  exact He.glo_ok X G (T.c.fact 6 rfl)
theorem glo_are_parts (T : Txt K mg) : mg "are_parts" = some (.ref (He.ga K "are_parts")) := by
  obtain ⟨h, X, G⟩ := T.hp
  exact He.glo_ok X G (T.c.fact 7 rfl)
theorem glo_cue_list (T : Txt K mg) : mg "cue_list" = some (.ref (He.ga K "cue_list")) := by
  obtain ⟨h, X, G⟩ := T.hp
  exact He.glo_ok X G (T.c.fact 8 rfl)
theorem glo_good_number (T : Txt K mg) : mg "good_number" = some (.ref (He.ga K "good_number")) := by
  obtain ⟨h, X, G⟩ := T.hp
  exact He.glo_ok X G (T.c.fact 9 rfl)
theorem glo_cue_at (T : Txt K mg) : mg "cue_at" = some (.ref (He.ga K "cue_at")) := by
  obtain ⟨h, X, G⟩ := T.hp
  exact He.glo_ok X G (T.c.fact 10 rfl)
theorem glo_above (T : Txt K mg) : mg "above" = some (.ref (He.ga K "above")) := by
  obtain ⟨h, X, G⟩ := T.hp
  exact He.glo_ok X G (T.c.fact 11 rfl)
theorem glo_below (T : Txt K mg) : mg "below" = some (.ref (He.ga K "below")) := by
  obtain ⟨h, X, G⟩ := T.hp
  exact He.glo_ok X G (T.c.fact 12 rfl)
theorem glo_put_in_look (T : Txt K mg) : mg "put_in_look" = some (.ref (He.ga K "put_in_look")) := by
  obtain ⟨h, X, G⟩ := T.hp
  exact He.glo_ok X G (T.c.fact 13 rfl)
theorem glo_carried (T : Txt K mg) : mg "carried" = some (.ref (He.ga K "carried")) := by
  obtain ⟨h, X, G⟩ := T.hp
  exact He.glo_ok X G (T.c.fact 14 rfl)
theorem glo_shown (T : Txt K mg) : mg "shown" = some (.ref (He.ga K "shown")) := by
  obtain ⟨h, X, G⟩ := T.hp
  exact He.glo_ok X G (T.c.fact 15 rfl)
theorem glo_fades_at (T : Txt K mg) : mg "fades_at" = some (.ref (He.ga K "fades_at")) := by
  obtain ⟨h, X, G⟩ := T.hp
  exact He.glo_ok X G (T.c.fact 16 rfl)
theorem glo__law_cell_at (T : Txt K mg) : mg "_law_cell_at" = some (.ref (He.ga K "_law_cell_at")) := by
  obtain ⟨h, X, G⟩ := T.hp
  exact He.glo_ok X G (T.c.fact 17 rfl)
theorem glo__law_whole (T : Txt K mg) : mg "_law_whole" = some (.ref (He.ga K "_law_whole")) := by
  obtain ⟨h, X, G⟩ := T.hp
  exact He.glo_ok X G (T.c.fact 18 rfl)
theorem glo__law_draw (T : Txt K mg) : mg "_law_draw" = some (.ref (He.ga K "_law_draw")) := by
  obtain ⟨h, X, G⟩ := T.hp
  exact He.glo_ok X G (T.c.fact 19 rfl)
theorem glo__law_rest (T : Txt K mg) : mg "_law_rest" = some (.ref (He.ga K "_law_rest")) := by
  obtain ⟨h, X, G⟩ := T.hp
  exact He.glo_ok X G (T.c.fact 20 rfl)
theorem glo__law_numbers (T : Txt K mg) : mg "_law_numbers" = some (.ref (He.ga K "_law_numbers")) := by
  obtain ⟨h, X, G⟩ := T.hp
  exact He.glo_ok X G (T.c.fact 21 rfl)
theorem glo__law_cues (T : Txt K mg) : mg "_law_cues" = some (.ref (He.ga K "_law_cues")) := by
  obtain ⟨h, X, G⟩ := T.hp
  exact He.glo_ok X G (T.c.fact 22 rfl)
theorem glo__law_goal (T : Txt K mg) : mg "_law_goal" = some (.ref (He.ga K "_law_goal")) := by
  obtain ⟨h, X, G⟩ := T.hp
  exact He.glo_ok X G (T.c.fact 23 rfl)
theorem glo__law_deed (T : Txt K mg) : mg "_law_deed" = some (.ref (He.ga K "_law_deed")) := by
  obtain ⟨h, X, G⟩ := T.hp
  exact He.glo_ok X G (T.c.fact 24 rfl)
theorem glo__law_stands (T : Txt K mg) : mg "_law_stands" = some (.ref (He.ga K "_law_stands")) := by
  obtain ⟨h, X, G⟩ := T.hp
  exact He.glo_ok X G (T.c.fact 25 rfl)
theorem glo_law (T : Txt K mg) : mg "law" = some (.ref (He.ga K "law")) := by
  obtain ⟨h, X, G⟩ := T.hp
  exact He.glo_ok X G (T.c.fact 26 rfl)
theorem glo_Part (T : Txt K mg) : mg "Part" = some (.ref (He.ga K "Part")) := by
  obtain ⟨h, X, G⟩ := T.hp
  exact He.glo_ok X G (T.c.fact 27 rfl)
theorem glo_Cue (T : Txt K mg) : mg "Cue" = some (.ref (He.ga K "Cue")) := by
  obtain ⟨h, X, G⟩ := T.hp
  exact He.glo_ok X G (T.c.fact 28 rfl)
theorem glo_Run (T : Txt K mg) : mg "Run" = some (.ref (He.ga K "Run")) := by
  obtain ⟨h, X, G⟩ := T.hp
  exact He.glo_ok X G (T.c.fact 29 rfl)
theorem glo_NoCue (T : Txt K mg) : mg "NoCue" = some (.ref (He.ga K "NoCue")) := by
  obtain ⟨h, X, G⟩ := T.hp
  exact He.glo_ok X G (T.c.fact 30 rfl)
theorem glo_SIDES (T : Txt K mg) : mg "SIDES" = some (.ref (He.ga K "SIDES")) := by
  obtain ⟨h, X, G⟩ := T.hp
  exact He.glo_ok X G (T.c.fact 31 rfl)
theorem free_len (T : Txt K mg) : mg "len" = none := by
  obtain ⟨h, X, G⟩ := T.hp
  exact He.free_ok X G (T.c.fact 32 rfl)
theorem free_min (T : Txt K mg) : mg "min" = none := by
  obtain ⟨h, X, G⟩ := T.hp
  exact He.free_ok X G (T.c.fact 33 rfl)
theorem free_max (T : Txt K mg) : mg "max" = none := by
  obtain ⟨h, X, G⟩ := T.hp
  exact He.free_ok X G (T.c.fact 34 rfl)
theorem free_isinstance (T : Txt K mg) : mg "isinstance" = none := by
  obtain ⟨h, X, G⟩ := T.hp
  exact He.free_ok X G (T.c.fact 35 rfl)
theorem free_int (T : Txt K mg) : mg "int" = none := by
  obtain ⟨h, X, G⟩ := T.hp
  exact He.free_ok X G (T.c.fact 36 rfl)
theorem free_bool (T : Txt K mg) : mg "bool" = none := by
  obtain ⟨h, X, G⟩ := T.hp
  exact He.free_ok X G (T.c.fact 37 rfl)
theorem free_range (T : Txt K mg) : mg "range" = none := by
  obtain ⟨h, X, G⟩ := T.hp
  exact He.free_ok X G (T.c.fact 38 rfl)
theorem free_list (T : Txt K mg) : mg "list" = none := by
  obtain ⟨h, X, G⟩ := T.hp
  exact He.free_ok X G (T.c.fact 39 rfl)
theorem free_dict (T : Txt K mg) : mg "dict" = none := by
  obtain ⟨h, X, G⟩ := T.hp
  exact He.free_ok X G (T.c.fact 40 rfl)
theorem free_str (T : Txt K mg) : mg "str" = none := by
  obtain ⟨h, X, G⟩ := T.hp
  exact He.free_ok X G (T.c.fact 41 rfl)
theorem free_tuple (T : Txt K mg) : mg "tuple" = none := by
  obtain ⟨h, X, G⟩ := T.hp
  exact He.free_ok X G (T.c.fact 42 rfl)
theorem free_sorted (T : Txt K mg) : mg "sorted" = none := by
  obtain ⟨h, X, G⟩ := T.hp
  exact He.free_ok X G (T.c.fact 43 rfl)
theorem free_set (T : Txt K mg) : mg "set" = none := by
  obtain ⟨h, X, G⟩ := T.hp
  exact He.free_ok X G (T.c.fact 44 rfl)
theorem free_sum (T : Txt K mg) : mg "sum" = none := by
  obtain ⟨h, X, G⟩ := T.hp
  exact He.free_ok X G (T.c.fact 45 rfl)
theorem int_MOST_times (T : Txt K mg) : ∃ t, mg "MOST_times" = some (.int 1000000000 t) := by
  obtain ⟨h, X, G⟩ := T.hp
  exact He.int_ok X G (T.c.fact 46 rfl)
theorem str_LETTERS (T : Txt K mg) : ∃ t, mg "LETTERS" = some (.str "abcdefghijklmnopqrstuvwxyz" t) := by
  obtain ⟨h, X, G⟩ := T.hp
  exact He.str_ok X G (T.c.fact 47 rfl)
theorem int_MOST_cues (T : Txt K mg) : ∃ t, mg "MOST_cues" = some (.int 1000000000 t) := by
  obtain ⟨h, X, G⟩ := T.hp
  exact He.int_ok X G (T.c.fact 48 rfl)
theorem fact_exc_NoCue (T : Txt K mg) : (He.Fa.ok K (.exc "NoCue")) = true := T.c.fact 49 rfl
theorem fact_exm_NoCue_NoCue (T : Txt K mg) : (He.Fa.ok K (.exm "NoCue" "NoCue" true)) = true := T.c.fact 50 rfl
theorem fact_cls_Part (T : Txt K mg) : (He.Fa.ok K (.cls "Part")) = true := T.c.fact 51 rfl
theorem fact_mk_Part (T : Txt K mg) : (He.Fa.ok K (.mkr "Part")) = true := T.c.fact 52 rfl
theorem fact_na_Part_tells (T : Txt K mg) : (He.Fa.ok K (.noat "Part" "tells")) = true := T.c.fact 53 rfl
theorem fact_na_Part_alone (T : Txt K mg) : (He.Fa.ok K (.noat "Part" "alone")) = true := T.c.fact 54 rfl
theorem fact_na_Part_rise (T : Txt K mg) : (He.Fa.ok K (.noat "Part" "rise")) = true := T.c.fact 55 rfl
theorem fact_na_Part_fall (T : Txt K mg) : (He.Fa.ok K (.noat "Part" "fall")) = true := T.c.fact 56 rfl
theorem fact_na_Part_wait (T : Txt K mg) : (He.Fa.ok K (.noat "Part" "wait")) = true := T.c.fact 57 rfl
theorem fact_m_Part_slots (T : Txt K mg) : (He.Fa.ok K (.meth "Part" "slots")) = true := T.c.fact 58 rfl
theorem fact_cls_Cue (T : Txt K mg) : (He.Fa.ok K (.cls "Cue")) = true := T.c.fact 59 rfl
theorem fact_mk_Cue (T : Txt K mg) : (He.Fa.ok K (.mkr "Cue")) = true := T.c.fact 60 rfl
theorem fact_na_Cue_number (T : Txt K mg) : (He.Fa.ok K (.noat "Cue" "number")) = true := T.c.fact 61 rfl
theorem fact_na_Cue_parts (T : Txt K mg) : (He.Fa.ok K (.noat "Cue" "parts")) = true := T.c.fact 62 rfl
theorem fact_na_Cue_stops (T : Txt K mg) : (He.Fa.ok K (.noat "Cue" "stops")) = true := T.c.fact 63 rfl
theorem fact_na_Cue_follow (T : Txt K mg) : (He.Fa.ok K (.noat "Cue" "follow")) = true := T.c.fact 64 rfl
theorem fact_cls_Run (T : Txt K mg) : (He.Fa.ok K (.cls "Run")) = true := T.c.fact 65 rfl
theorem fact_mk_Run (T : Txt K mg) : (He.Fa.ok K (.mkr "Run")) = true := T.c.fact 66 rfl
theorem fact_na_Run_cues (T : Txt K mg) : (He.Fa.ok K (.noat "Run" "cues")) = true := T.c.fact 67 rfl
theorem fact_na_Run_number (T : Txt K mg) : (He.Fa.ok K (.noat "Run" "number")) = true := T.c.fact 68 rfl
theorem fact_na_Run_due (T : Txt K mg) : (He.Fa.ok K (.noat "Run" "due")) = true := T.c.fact 69 rfl
theorem fact_na_Run_tick (T : Txt K mg) : (He.Fa.ok K (.noat "Run" "tick")) = true := T.c.fact 70 rfl
theorem fact_na_Run_showed (T : Txt K mg) : (He.Fa.ok K (.noat "Run" "showed")) = true := T.c.fact 71 rfl
theorem fact_na_Run_going (T : Txt K mg) : (He.Fa.ok K (.noat "Run" "going")) = true := T.c.fact 72 rfl
theorem fact_na_Run_aims (T : Txt K mg) : (He.Fa.ok K (.noat "Run" "aims")) = true := T.c.fact 73 rfl
theorem fact_na_Run_motions (T : Txt K mg) : (He.Fa.ok K (.noat "Run" "motions")) = true := T.c.fact 74 rfl
theorem fact_m_Run_clock_of (T : Txt K mg) : (He.Fa.ok K (.meth "Run" "clock_of")) = true := T.c.fact 75 rfl
theorem fact_m_Run_follow_ons (T : Txt K mg) : (He.Fa.ok K (.meth "Run" "follow_ons")) = true := T.c.fact 76 rfl
theorem fact_m_Run_come (T : Txt K mg) : (He.Fa.ok K (.meth "Run" "come")) = true := T.c.fact 77 rfl
theorem fact_m_Run_take (T : Txt K mg) : (He.Fa.ok K (.meth "Run" "take")) = true := T.c.fact 78 rfl
theorem fact_m_Run_march (T : Txt K mg) : (He.Fa.ok K (.meth "Run" "march")) = true := T.c.fact 79 rfl
theorem fact_m_Run_go (T : Txt K mg) : (He.Fa.ok K (.meth "Run" "go")) = true := T.c.fact 80 rfl
theorem fact_m_Run_back (T : Txt K mg) : (He.Fa.ok K (.meth "Run" "back")) = true := T.c.fact 81 rfl
theorem fact_m_Run_goto (T : Txt K mg) : (He.Fa.ok K (.meth "Run" "goto")) = true := T.c.fact 82 rfl
theorem fact_m_Run_change (T : Txt K mg) : (He.Fa.ok K (.meth "Run" "change")) = true := T.c.fact 83 rfl
theorem fact_m_Run_number_at (T : Txt K mg) : (He.Fa.ok K (.meth "Run" "number_at")) = true := T.c.fact 84 rfl
end
section
variable {K : PySem.W.Frag} {mg : Str → Option Value}
theorem exc_NoCue (T : Txt K mg) : PySem.W.excIn K (He.ga K "NoCue") He.veBase "ValueError.__new__" = true ∧ PySem.W.keepIn K (.ref (He.ga K "NoCue")) = true ∧ PySem.W.subIn K (.ref (He.ga K "NoCue")) (.type "BaseException") = some true ∧ PySem.W.typeIn K (.ref (He.ga K "NoCue")) = some (.type "type") := He.exc_ok (fact_exc_NoCue T)
theorem exm_NoCue_NoCue (T : Txt K mg) : PySem.W.exmOne K (.ref (He.ga K "NoCue")) (.ref (He.ga K "NoCue")) = some true := He.exm_ok (fact_exm_NoCue_NoCue T)
theorem cls_Part (T : Txt K mg) : Cls K (He.ga K "Part") := He.cls_ok (fact_cls_Part T)
theorem mk_Part (T : Txt K mg) : Mk K (He.ga K "Part") (He.ma K (He.ga K "Part") "__init__") := He.mkr_ok (fact_mk_Part T)
theorem na_Part_tells (T : Txt K mg) : NoAttr K (He.ga K "Part") "tells" := He.noat_ok (fact_na_Part_tells T)
theorem na_Part_alone (T : Txt K mg) : NoAttr K (He.ga K "Part") "alone" := He.noat_ok (fact_na_Part_alone T)
theorem na_Part_rise (T : Txt K mg) : NoAttr K (He.ga K "Part") "rise" := He.noat_ok (fact_na_Part_rise T)
theorem na_Part_fall (T : Txt K mg) : NoAttr K (He.ga K "Part") "fall" := He.noat_ok (fact_na_Part_fall T)
theorem na_Part_wait (T : Txt K mg) : NoAttr K (He.ga K "Part") "wait" := He.noat_ok (fact_na_Part_wait T)
theorem m_Part_slots (T : Txt K mg) : Meth K (He.ga K "Part") "slots" (He.ma K (He.ga K "Part") "slots") := He.meth_ok (fact_m_Part_slots T)
theorem cls_Cue (T : Txt K mg) : Cls K (He.ga K "Cue") := He.cls_ok (fact_cls_Cue T)
theorem mk_Cue (T : Txt K mg) : Mk K (He.ga K "Cue") (He.ma K (He.ga K "Cue") "__init__") := He.mkr_ok (fact_mk_Cue T)
theorem na_Cue_number (T : Txt K mg) : NoAttr K (He.ga K "Cue") "number" := He.noat_ok (fact_na_Cue_number T)
theorem na_Cue_parts (T : Txt K mg) : NoAttr K (He.ga K "Cue") "parts" := He.noat_ok (fact_na_Cue_parts T)
theorem na_Cue_stops (T : Txt K mg) : NoAttr K (He.ga K "Cue") "stops" := He.noat_ok (fact_na_Cue_stops T)
theorem na_Cue_follow (T : Txt K mg) : NoAttr K (He.ga K "Cue") "follow" := He.noat_ok (fact_na_Cue_follow T)
theorem cls_Run (T : Txt K mg) : Cls K (He.ga K "Run") := He.cls_ok (fact_cls_Run T)
theorem mk_Run (T : Txt K mg) : Mk K (He.ga K "Run") (He.ma K (He.ga K "Run") "__init__") := He.mkr_ok (fact_mk_Run T)
theorem na_Run_cues (T : Txt K mg) : NoAttr K (He.ga K "Run") "cues" := He.noat_ok (fact_na_Run_cues T)
theorem na_Run_number (T : Txt K mg) : NoAttr K (He.ga K "Run") "number" := He.noat_ok (fact_na_Run_number T)
theorem na_Run_due (T : Txt K mg) : NoAttr K (He.ga K "Run") "due" := He.noat_ok (fact_na_Run_due T)
theorem na_Run_tick (T : Txt K mg) : NoAttr K (He.ga K "Run") "tick" := He.noat_ok (fact_na_Run_tick T)
theorem na_Run_showed (T : Txt K mg) : NoAttr K (He.ga K "Run") "showed" := He.noat_ok (fact_na_Run_showed T)
theorem na_Run_going (T : Txt K mg) : NoAttr K (He.ga K "Run") "going" := He.noat_ok (fact_na_Run_going T)
theorem na_Run_aims (T : Txt K mg) : NoAttr K (He.ga K "Run") "aims" := He.noat_ok (fact_na_Run_aims T)
theorem na_Run_motions (T : Txt K mg) : NoAttr K (He.ga K "Run") "motions" := He.noat_ok (fact_na_Run_motions T)
theorem m_Run_clock_of (T : Txt K mg) : Meth K (He.ga K "Run") "clock_of" (He.ma K (He.ga K "Run") "clock_of") := He.meth_ok (fact_m_Run_clock_of T)
theorem m_Run_follow_ons (T : Txt K mg) : Meth K (He.ga K "Run") "follow_ons" (He.ma K (He.ga K "Run") "follow_ons") := He.meth_ok (fact_m_Run_follow_ons T)
theorem m_Run_come (T : Txt K mg) : Meth K (He.ga K "Run") "come" (He.ma K (He.ga K "Run") "come") := He.meth_ok (fact_m_Run_come T)
theorem m_Run_take (T : Txt K mg) : Meth K (He.ga K "Run") "take" (He.ma K (He.ga K "Run") "take") := He.meth_ok (fact_m_Run_take T)
theorem m_Run_march (T : Txt K mg) : Meth K (He.ga K "Run") "march" (He.ma K (He.ga K "Run") "march") := He.meth_ok (fact_m_Run_march T)
theorem m_Run_go (T : Txt K mg) : Meth K (He.ga K "Run") "go" (He.ma K (He.ga K "Run") "go") := He.meth_ok (fact_m_Run_go T)
theorem m_Run_back (T : Txt K mg) : Meth K (He.ga K "Run") "back" (He.ma K (He.ga K "Run") "back") := He.meth_ok (fact_m_Run_back T)
theorem m_Run_goto (T : Txt K mg) : Meth K (He.ga K "Run") "goto" (He.ma K (He.ga K "Run") "goto") := He.meth_ok (fact_m_Run_goto T)
theorem m_Run_change (T : Txt K mg) : Meth K (He.ga K "Run") "change" (He.ma K (He.ga K "Run") "change") := He.meth_ok (fact_m_Run_change T)
theorem m_Run_number_at (T : Txt K mg) : Meth K (He.ga K "Run") "number_at" (He.ma K (He.ga K "Run") "number_at") := He.meth_ok (fact_m_Run_number_at T)
theorem ins_Cue (T : Txt K mg) : C8.InsC K (He.ga K "Cue") := L2.insB_ok (cls_Cue T) (insf_Cue T)
theorem ins_Part (T : Txt K mg) : C8.InsC K (He.ga K "Part") := L2.insB_ok (cls_Part T) (insf_Part T)
end
section
variable {P : Program} {w : World} {K : PySem.W.Frag} {mg : Str → Option Value} {base : Heap}
/-! ### cues that tell nothing -/
abbrev cP (K : PySem.W.Frag) : Addr := He.ga K "Part"
abbrev cC (K : PySem.W.Frag) : Addr := He.ga K "Cue"
abbrev Cu := Int × Option Int
def optV : Option Int → V
  | none => .non
  | some i => .int i
abbrev pfl (t a : Addr) (r f w : Int) : List (Str × V) := [("tells", .ref t), ("alone", .ref a), ("rise", .int r), ("fall", .int f), ("wait", .int w)]
abbrev cfl (n : Int) (l : Addr) (s : Bool) (f : Option Int) : List (Str × V) := [("number", .int n), ("parts", .ref l), ("stops", .bl s), ("follow", optV f)]
structure PartAt (K : PySem.W.Frag) (H : Hp) (x : Addr) : Prop where
  ob : ∃ dx t a r f w, H x = some (.ins (cP K) dx (pfl t a r f w)) ∧ H t = some (.dK []) ∧ H a = some (.dK [])
structure CueAt (K : PySem.W.Frag) (H : Hp) (x : Addr) (c : Cu) : Prop where
  ob : ∃ dx l p, H x = some (.ins (cC K) dx (cfl c.1 l false c.2)) ∧ H l = some (.lst [.ref p]) ∧ PartAt K H p
theorem PartAt.same {K : PySem.W.Frag} {H H' : Hp} {x : Addr} (h : PartAt K H x) (s : Same H H') : PartAt K H' x := by
  obtain ⟨dx, t, a, r, f, w, h1, h2, h3⟩ := h.ob
  exact ⟨⟨dx, t, a, r, f, w, s _ _ h1, s _ _ h2, s _ _ h3⟩⟩
theorem CueAt.same {K : PySem.W.Frag} {H H' : Hp} {x : Addr} {c : Cu} (h : CueAt K H x c) (s : Same H H') : CueAt K H' x c := by
  obtain ⟨dx, l, p, h1, h2, h3⟩ := h.ob
  exact ⟨⟨dx, l, p, s _ _ h1, s _ _ h2, h3.same s⟩⟩
def TimeIn (t : Int) : Prop := 0 ≤ t ∧ t ≤ 1000000000
def spTime : Sp := fun vs H Q _ => ∃ t : Int, vs = [.int t] ∧ TimeIn t ∧ Q (.bl true) H
theorem ok_is_time (T : Txt K mg) : ∃ fd, FnOk P w K mg base CX0 1 (He.fAd K ("is_time", none)) fd ["thing"] spTime ∧ FunD K "is_time" "is_time" (defArgs s_is_time) (defBody s_is_time) (defScope s_is_time) [] [] (He.fAd K ("is_time", none)) fd := by
  obtain ⟨fd, F⟩ := T.c.def_ 0 (d := d_is_time) rfl
  obtain ⟨t_MOST_times, g_MOST_times⟩ := int_MOST_times T
  refine ⟨fd, F.ok sc_is_time (by walk_at "g94len") (fun cdv A outer st H vs Q E hr h => ?_), F⟩
  · obtain ⟨t, rfl, ⟨h0, h1⟩, k⟩ := h
    refine ⟨_, PSs.nox (pss_one (ps_ret (pe_and (pe_callB call_isi (by rfl) (free_isinstance T) (by decide +kernel) (pa_cons (pv 0) (pa_cons (pe_bltn (v := .ty "int") (by rfl) (free_int T) (by decide +kernel) rfl) pa_nil))) (pe_and (pe_not (pe_callB call_isi (by rfl) (free_isinstance T) (by decide +kernel) (pa_cons (pv 0) (pa_cons (pe_bltn (v := .ty "bool") (by rfl) (free_bool T) (by decide +kernel) rfl) pa_nil)))) (pe_one (pe_chain op_le op_le pe_int (pv 0) (pe_glob (v := .int 1000000000) rfl g_MOST_times ⟨_, rfl⟩))))))), ?_⟩
    walk_at "wks"
    refine iteDT h0 ?_
    walk_at "wks"
    exact qT (Q := Q) h1 k
def spAmid : Sp := fun vs H Q _ => ∃ n a b : Int, vs = [.int n, .int a, .int b] ∧ a ≤ n ∧ n ≤ b ∧ Q (.bl true) H
theorem ok_is_amid (T : Txt K mg) : ∃ fd, FnOk P w K mg base CX0 1 (He.fAd K ("is_amid", none)) fd ["thing", "least", "most"] spAmid ∧ FunD K "is_amid" "is_amid" (defArgs s_is_amid) (defBody s_is_amid) (defScope s_is_amid) [] [] (He.fAd K ("is_amid", none)) fd := by
  obtain ⟨fd, F⟩ := T.c.def_ 1 (d := d_is_amid) rfl
  refine ⟨fd, F.ok sc_is_amid (by walk_at "g94len") (fun cdv A outer st H vs Q E hr h => ?_), F⟩
  · obtain ⟨n, a, b, rfl, h0, h1, k⟩ := h
    refine ⟨_, PSs.nox (pss_cons (ps_if (PW.pt (pw_or (pt_not (pt_val (pe_callB call_isi (by rfl) (free_isinstance T) (by decide +kernel) (pa_cons (pv 0) (pa_cons (pe_bltn (v := .ty "int") (by rfl) (free_int T) (by decide +kernel) rfl) pa_nil))))) (pw_or1 (pt_val (pe_callB call_isi (by rfl) (free_isinstance T) (by decide +kernel) (pa_cons (pv 0) (pa_cons (pe_bltn (v := .ty "bool") (by rfl) (free_bool T) (by decide +kernel) rfl) pa_nil))))))) (pss_one (ps_ret pe_bl)) pss_nil)
        (pss_one (ps_ret (pe_chain op_le op_le (pv 1) (pv 0) (pv 2))))), ?_⟩
    walk_at "wks"
    refine iteDT h0 ?_
    walk_at "wks"
    exact qT (Q := Q) h1 k
def spNever : Sp := fun _ _ _ _ => False
theorem ok_is_lamp (T : Txt K mg) : ∃ fd, FnOk P w K mg base CX0 1 (He.fAd K ("is_lamp", none)) fd ["thing"] spNever ∧ FunD K "is_lamp" "is_lamp" (defArgs s_is_lamp) (defBody s_is_lamp) (defScope s_is_lamp) [] [] (He.fAd K ("is_lamp", none)) fd := by
  obtain ⟨fd, F⟩ := T.c.def_ 2 (d := d_is_lamp) rfl
  obtain ⟨t_LETTERS, g_LETTERS⟩ := str_LETTERS T
  refine ⟨fd, F.ok sc_is_lamp (by walk_at "g94len") (fun cdv A outer st H vs Q E hr h => ?_), F⟩
  · exact h.elim
theorem ok_is_slot (T : Txt K mg) : ∃ fd, FnOk P w K mg base CX0 2 (He.fAd K ("is_slot", none)) fd ["thing"] spNever ∧ FunD K "is_slot" "is_slot" (defArgs s_is_slot) (defBody s_is_slot) (defScope s_is_slot) [] [] (He.fAd K ("is_slot", none)) fd := by
  obtain ⟨fd, F⟩ := T.c.def_ 3 (d := d_is_slot) rfl
  refine ⟨fd, F.ok sc_is_slot (by walk_at "g94len") (fun cdv A outer st H vs Q E hr h => ?_), F⟩
  · exact h.elim
theorem ok_is_worth (T : Txt K mg) : ∃ fd, FnOk P w K mg base CX0 2 (He.fAd K ("is_worth", none)) fd ["thing"] spNever ∧ FunD K "is_worth" "is_worth" (defArgs s_is_worth) (defBody s_is_worth) (defScope s_is_worth) [] [] (He.fAd K ("is_worth", none)) fd := by
  obtain ⟨fd, F⟩ := T.c.def_ 4 (d := d_is_worth) rfl
  obtain ⟨t_MOST_cues, g_MOST_cues⟩ := int_MOST_cues T
  refine ⟨fd, F.ok sc_is_worth (by walk_at "g94len") (fun cdv A outer st H vs Q E hr h => ?_), F⟩
  · exact h.elim
def spNone : Sp := fun vs H Q _ => ∃ d : Addr, vs = [.ref d] ∧ H d = some (.dK []) ∧ Q .non H
theorem ok_look_at_slots (T : Txt K mg) : ∃ fd, FnOk P w K mg base CX0 3 (He.fAd K ("look_at_slots", none)) fd ["told"] spNone ∧ FunD K "look_at_slots" "look_at_slots" (defArgs s_look_at_slots) (defBody s_look_at_slots) (defScope s_look_at_slots) [] [] (He.fAd K ("look_at_slots", none)) fd := by
  obtain ⟨fd, F⟩ := T.c.def_ 5 (d := d_look_at_slots) rfl
  obtain ⟨fd_is_slot, G_is_slot, F_is_slot⟩ := ok_is_slot (P := P) (w := w) (base := base) T
  have kp_is_slot := F_is_slot.kp
  have b_is_slot : Binds K fd_is_slot ["thing"] [] := FunD.bindsN F_is_slot (fun _ _ _ _ _ _ us hl => match us, hl with | [_], _ => rfl)
  refine ⟨fd, F.ok sc_look_at_slots (by walk_at "g94len") (fun cdv A outer st H vs Q E hr h => ?_), F⟩
  · obtain ⟨d, rfl, hd, k⟩ := h
    refine ⟨_, PSs.nox (pss_cons (ps_if (pt_not (pt_val (pe_callB call_isi (by rfl) (free_isinstance T) (by decide +kernel) (pa_cons (pv 0) (pa_cons (pe_bltn (v := .ty "dict") (by rfl) (free_dict T) (by decide +kernel) rfl) pa_nil))))) (pss_one ps_never) pss_nil)
        (pss_one (ps_lock (ps_for PassesOwn.never rfl (pi_keys (pv 0)) (pg_name (i := 1) sc_look_at_slots.nd rfl (Or.inl rfl)) (pss_one (ps_if (pt_not (pt_val (pe_call G_is_slot (hr.mono (by decide)) rfl (glo_is_slot T) kp_is_slot b_is_slot .nil pass0 (pa_cons (pv 1) pa_nil)))) (pss_one ps_never) pss_nil)))))), ?_⟩
    walk_at "wks"
    exact lock_keys0 hd (fun od Q q => ⟨_, rfl, q⟩) k
theorem ok_look_at_worths (T : Txt K mg) : ∃ fd, FnOk P w K mg base CX0 3 (He.fAd K ("look_at_worths", none)) fd ["told"] spNone ∧ FunD K "look_at_worths" "look_at_worths" (defArgs s_look_at_worths) (defBody s_look_at_worths) (defScope s_look_at_worths) [] [] (He.fAd K ("look_at_worths", none)) fd := by
  obtain ⟨fd, F⟩ := T.c.def_ 6 (d := d_look_at_worths) rfl
  obtain ⟨fd_is_worth, G_is_worth, F_is_worth⟩ := ok_is_worth (P := P) (w := w) (base := base) T
  have kp_is_worth := F_is_worth.kp
  have b_is_worth : Binds K fd_is_worth ["thing"] [] := FunD.bindsN F_is_worth (fun _ _ _ _ _ _ us hl => match us, hl with | [_], _ => rfl)
  refine ⟨fd, F.ok sc_look_at_worths (by walk_at "g94len") (fun cdv A outer st H vs Q E hr h => ?_), F⟩
  · obtain ⟨d, rfl, hd, k⟩ := h
    refine ⟨_, PSs.nox (pss_one (ps_lock (ps_for PassesOwn.never rfl (pi_values (pv 0)) (pg_name (i := 1) sc_look_at_worths.nd rfl (Or.inl rfl)) (pss_one (ps_if (pt_not (pt_val (pe_call G_is_worth (hr.mono (by decide)) rfl (glo_is_worth T) kp_is_worth b_is_worth .nil pass0 (pa_cons (pv 1) pa_nil)))) (pss_one ps_never) pss_nil))))), ?_⟩
    exact lock_vals0 hd (fun od Q q => ⟨_, rfl, q⟩) k
def spPart (K : PySem.W.Frag) : Sp := fun vs H Q _ => ∃ (x dx t a : Addr) (r f w : Int), vs = [.ref x, .ref t, .ref a, .int r, .int f, .int w] ∧ H x = some (.ins (cP K) dx []) ∧ H t = some (.dK []) ∧ H a = some (.dK []) ∧ TimeIn r ∧ TimeIn f ∧ TimeIn w ∧
  ∀ H', But x H H' → PartAt K H' x → Q .non H'
theorem ok_Part_init (T : Txt K mg) : ∃ fd, FnOk P w K mg base CX0 4 (He.fAd K ("Part", some "__init__")) fd ["self", "tells", "alone", "rise", "fall", "wait"] (spPart K) ∧ FunD K "__init__" "Part.__init__" (defArgs s_Part_init) (defBody s_Part_init) (defScope s_Part_init) [V.int 0, V.int 0, V.int 0] [] (He.fAd K ("Part", some "__init__")) fd := by
  obtain ⟨fd, F⟩ := T.c.def_ 7 (d := d_Part_init) rfl
  obtain ⟨fd_look_at_slots, G_look_at_slots, F_look_at_slots⟩ := ok_look_at_slots (P := P) (w := w) (base := base) T
  have kp_look_at_slots := F_look_at_slots.kp
  have b_look_at_slots : Binds K fd_look_at_slots ["told"] [] := FunD.bindsN F_look_at_slots (fun _ _ _ _ _ _ us hl => match us, hl with | [_], _ => rfl)
  obtain ⟨fd_look_at_worths, G_look_at_worths, F_look_at_worths⟩ := ok_look_at_worths (P := P) (w := w) (base := base) T
  have kp_look_at_worths := F_look_at_worths.kp
  have b_look_at_worths : Binds K fd_look_at_worths ["told"] [] := FunD.bindsN F_look_at_worths (fun _ _ _ _ _ _ us hl => match us, hl with | [_], _ => rfl)
  obtain ⟨fd_is_time, G_is_time, F_is_time⟩ := ok_is_time (P := P) (w := w) (base := base) T
  have kp_is_time := F_is_time.kp
  have b_is_time : Binds K fd_is_time ["thing"] [] := FunD.bindsN F_is_time (fun _ _ _ _ _ _ us hl => match us, hl with | [_], _ => rfl)
  have cl_Part := cls_Part T
  have na_Part_tells := na_Part_tells T
  have na_Part_alone := na_Part_alone T
  have na_Part_rise := na_Part_rise T
  have na_Part_fall := na_Part_fall T
  have na_Part_wait := na_Part_wait T
  refine ⟨fd, F.ok sc_Part_init (by walk_at "g94len") (fun cdv A outer st H vs Q E hr h => ?_), F⟩
  · obtain ⟨x, dx, t, a, r, f, w, rfl, hx, ht, ha, hr', hf, hw, k⟩ := h
    refine ⟨_, PSs.nox (pss_cons (ps_expr (pe_call G_look_at_slots (hr.mono (by decide)) rfl (glo_look_at_slots T) kp_look_at_slots b_look_at_slots .nil pass0 (pa_cons (pv 1) pa_nil)))
        (pss_cons (ps_expr (pe_call G_look_at_slots (hr.mono (by decide)) rfl (glo_look_at_slots T) kp_look_at_slots b_look_at_slots .nil pass0 (pa_cons (pv 2) pa_nil)))
        (pss_cons (ps_expr (pe_call G_look_at_worths (hr.mono (by decide)) rfl (glo_look_at_worths T) kp_look_at_worths b_look_at_worths .nil pass0 (pa_cons (pv 1) pa_nil)))
        (pss_cons (ps_expr (pe_call G_look_at_worths (hr.mono (by decide)) rfl (glo_look_at_worths T) kp_look_at_worths b_look_at_worths .nil pass0 (pa_cons (pv 2) pa_nil)))
        (pss_cons (ps_if (PW.pt (pw_or (pt_not (pt_val (pe_call G_is_time (hr.mono (by decide)) rfl (glo_is_time T) kp_is_time b_is_time .nil pass0 (pa_cons (pv 3) pa_nil)))) (pw_or (pt_not (pt_val (pe_call G_is_time (hr.mono (by decide)) rfl (glo_is_time T) kp_is_time b_is_time .nil pass0 (pa_cons (pv 4) pa_nil)))) (pw_or1 (pt_not (pt_val (pe_call G_is_time (hr.mono (by decide)) rfl (glo_is_time T) kp_is_time b_is_time .nil pass0 (pa_cons (pv 5) pa_nil)))))))) (pss_one ps_never) pss_nil)
        (pss_cons (ps_fldK (pv 0) (pe_callTy call_dictDK (by rfl) (free_dict T) (by decide +kernel) (pa_cons (pv 1) pa_nil)) rfl)
        (pss_cons (ps_fldK (pv 0) (pe_callTy call_dictDK (by rfl) (free_dict T) (by decide +kernel) (pa_cons (pv 2) pa_nil)) rfl)
        (pss_cons (ps_fldK (pv 0) (pv 3) rfl)
        (pss_cons (ps_fldK (pv 0) (pv 4) rfl)
        (pss_one (ps_fldK (pv 0) (pv 5) rfl))))))))))), ?_⟩
    walk_at "wks"
    exact k _ (by walk_at "bt") ⟨⟨dx, _, _, r, f, w, by walk_at "hp", by walk_at "hp", by walk_at "hp"⟩⟩
def spSlots (K : PySem.W.Frag) : Sp := fun vs H Q _ => ∃ x : Addr, vs = [.ref x] ∧ PartAt K H x ∧ ∀ (p : Addr) H', Same H H' → H' p = some (.lst []) → Q (.ref p) H'
theorem ok_Part_slots (T : Txt K mg) : ∃ fd, FnOk P w K mg base CX0 1 (He.fAd K ("Part", some "slots")) fd ["self"] (spSlots K) ∧ FunD K "slots" "Part.slots" (defArgs s_Part_slots) (defBody s_Part_slots) (defScope s_Part_slots) [] [] (He.fAd K ("Part", some "slots")) fd := by
  obtain ⟨fd, F⟩ := T.c.def_ 8 (d := d_Part_slots) rfl
  have cl_Part := cls_Part T
  have na_Part_tells := na_Part_tells T
  have na_Part_alone := na_Part_alone T
  refine ⟨fd, F.ok sc_Part_slots (by walk_at "g94len") (fun cdv A outer st H vs Q E hr h => ?_), F⟩
  · obtain ⟨x, rfl, ⟨dx, t, a, r, f, w, hx, ht, ha⟩, k⟩ := h
    refine ⟨_, PSs.nox (pss_one (ps_ret (pe_op op_catK (pe_callTy (call_listDK rfl) (by rfl) (free_list T) (by decide +kernel) (pa_cons (pe_fld (pv 0) rfl) pa_nil)) (pe_lock (pe_lc (own := [("slot", 1)]) (g := upG (gName 1)) rfl sc_Part_slots.nd (pi_keys (pe_fld (pv 0) rfl)) (blkOk_by (own := [("slot", 1)]) (N := ["self", "slot"]) (sc := defScope s_Part_slots) (by decide +kernel)) (fun _ _ _ _ _ => (PG.up (pg_name (i := 1) sc_Part_slots.nd rfl (Or.inl rfl)))) (fun _ _ _ _ _ => (PTs.up (pts_one (pt_cmp (pc_dnotin (hu_of hr) (pv 1) (show PE _ _ (tFld K _ _) from pe_fld (pv 0) rfl)))))) (fun _ _ _ _ _ => (PE.up (pv 1)))))))), ?_⟩
    walk_at "wks"
    rename_i p1 H1 f1 s1 h1
    have hx1 := s1 _ _ hx
    have ha1 := s1 _ _ ha
    refine lock_lc0 ha1 (fun od Q q => ⟨_, rfl, _, _, _, _, _, rfl, updN (ne_of hx1 ha1 (by intro z; cases z)) hx1, cl_Part, na_Part_alone, (by walk_at "lk"), q⟩) ?_
    walk_at "wks"
    exact k _ _ (by walk_at "sm") (by walk_at "hp")
def spParts (K : PySem.W.Frag) : Sp := fun vs H Q _ => ∃ l x : Addr, vs = [.ref l] ∧ H l = some (.lst [.ref x]) ∧ PartAt K H x ∧ ∀ H', Same H H' → Q (.bl true) H'
theorem ok_are_parts (T : Txt K mg) : ∃ fd, FnOk P w K mg base CX0 2 (He.fAd K ("are_parts", none)) fd ["parts"] (spParts K) ∧ FunD K "are_parts" "are_parts" (defArgs s_are_parts) (defBody s_are_parts) (defScope s_are_parts) [] [] (He.fAd K ("are_parts", none)) fd := by
  obtain ⟨fd, F⟩ := T.c.def_ 9 (d := d_are_parts) rfl
  obtain ⟨fd_Part_slots, G_Part_slots, F_Part_slots⟩ := ok_Part_slots (P := P) (w := w) (base := base) T
  have kp_Part_slots := F_Part_slots.kp
  have b_Part_slots : Binds K fd_Part_slots ["self"] [] := FunD.bindsN F_Part_slots (fun _ _ _ _ _ _ us hl => match us, hl with | [_], _ => rfl)
  refine ⟨fd, F.ok sc_are_parts (by walk_at "g94len") (fun cdv A outer st H vs Q E hr h => ?_), F⟩
  · obtain ⟨l, x, rfl, hl, hp, k⟩ := h
    refine ⟨_, PSs.nox (pss_cons (ps_if (PW.pt (pw_or (pt_not (pt_val (pe_callB call_isi (by rfl) (free_isinstance T) (by decide +kernel) (pa_cons (pv 0) (pa_cons (pe_bltn (v := .ty "list") (by rfl) (free_list T) (by decide +kernel) rfl) pa_nil))))) (pw_or1 (pt_not (pt_chain op_le op_le pe_int (pe_callB call_len_seq (by rfl) (free_len T) (by decide +kernel) (pa_cons (pv 0) pa_nil)) pe_int))))) (pss_one (ps_ret pe_bl)) pss_nil)
        (pss_cons (ps_set (i := 1) sc_are_parts.nd rfl (Or.inl rfl) pe_dnewKK)
        (pss_cons (ps_for PassesOwn.never rfl (pi_list (pv 0)) (pg_name (i := 2) sc_are_parts.nd rfl (Or.inl rfl)) (pss_cons (ps_if (pt_not (pt_val (pe_callB (C8.call_isC (ins_Part T)) (by rfl) (free_isinstance T) (by decide +kernel) (pa_cons (pv 2) (pa_cons (pe_glob (v := .ref (He.ga K "Part")) rfl (glo_Part T) rfl) pa_nil))))) (pss_one (ps_ret pe_bl)) pss_nil)
        (pss_one (ps_for PassesOwn.never rfl (pi_list (pe_meth0 (pv 2) (cls_Part T) (m_Part_slots T) G_Part_slots (hr.mono (by decide)) b_Part_slots .nil pass0)) (pg_name (i := 3) sc_are_parts.nd rfl (Or.inl rfl)) (pss_cons (ps_if (pt_cmp (pc_din (hu_of hr) (pv 3) (pv 1))) (pss_one (ps_ret pe_bl)) pss_nil)
        (pss_one (ps_dputKK (hu_of hr) (pv 1) (pv 3) pe_bl rfl)))))))
        (pss_one (ps_ret pe_bl))))), ?_⟩
    walk_at "wks"
    rename_i d1 H1 f1 s1 h1
    have hl1 := s1 _ _ hl
    refine ⟨⟨_, .of hl1⟩, for_list (K := K) (a := l) (xs := [.ref x]) (fun i σ' H' => ∃ v w : Option V, σ' = [some (.ref l), some (.ref d1), v, w] ∧ Same H1 H') ⟨_, _, rfl, .refl _⟩ (fun i σ' H' _ ⟨_, _, _, s⟩ => .of (s _ _ hl1)) ?_ ?_⟩
    · rintro i y σ' H2 hi ⟨v, w0, rfl, s2⟩
      obtain ⟨rfl, rfl⟩ : i = 0 ∧ y = V.ref x := by
        match i, hi with
        | 0, hi => exact ⟨rfl, (Option.some.inj hi).symm⟩
      obtain ⟨dx, t, a, r, f, w, hx, ht, ha⟩ := ((hp.same s1).same s2).ob
      refine ⟨_, rfl, x, dx, _, rfl, hx, _, rfl, iteF ?_⟩
      walk_at "wks"
      refine ⟨⟨dx, t, a, r, f, w, hx, ht, ha⟩, fun p H3 s3 h3 => ?_⟩
      refine ⟨p, rfl, ⟨_, .of h3⟩, for_list (K := K) (a := p) (xs := []) (fun i σ' H' => σ' = [some (.ref l), some (.ref d1), some (.ref x), w0] ∧ H' = H3) ⟨rfl, rfl⟩ (fun i σ' H' _ ⟨_, e⟩ => by rw [e]; exact .of h3) (fun i y σ' H' hi _ => by cases i <;> cases hi) ?_⟩
      rintro σ' H' ⟨rfl, rfl⟩
      exact ⟨_, _, rfl, by walk_at "sm"⟩
    · rintro σ' H2 ⟨v, w, rfl, s2⟩
      exact k _ (by walk_at "sm")
def TimeO : Option Int → Prop
  | none => True
  | some t => TimeIn t
def spCue (K : PySem.W.Frag) : Sp := fun vs H Q _ => ∃ (y dx l x : Addr) (n : Int) (f : Option Int), vs = [.ref y, .int n, .ref l, .bl false, optV f] ∧ H y = some (.ins (cC K) dx []) ∧ H l = some (.lst [.ref x]) ∧ PartAt K H x ∧ 1 ≤ n ∧ n ≤ 1000000000 ∧ TimeO f ∧
  ∀ (l' : Addr) H', But y H H' → Fr H l' → H' y = some (.ins (cC K) dx (cfl n l' false f)) → H' l' = some (.lst [.ref x]) → PartAt K H' x → Q .non H'
theorem Fr.but {H G : Hp} {p y : Addr} {o : HO} (f : Fr G p) (m : But y H G) (h : G y = some o) : Fr H p := by
  cases e : H p with
  | none => exact e
  | some u =>
    have ne : p ≠ y := neF2 f h
    have := m _ _ ne e
    rw [f] at this
    cases this
theorem ok_Cue_init (T : Txt K mg) : ∃ fd, FnOk P w K mg base CX0 3 (He.fAd K ("Cue", some "__init__")) fd ["self", "number", "parts", "stops", "follow"] (spCue K) ∧ FunD K "__init__" "Cue.__init__" (defArgs s_Cue_init) (defBody s_Cue_init) (defScope s_Cue_init) [V.bl false, V.non] [] (He.fAd K ("Cue", some "__init__")) fd := by
  obtain ⟨fd, F⟩ := T.c.def_ 10 (d := d_Cue_init) rfl
  obtain ⟨fd_is_amid, G_is_amid, F_is_amid⟩ := ok_is_amid (P := P) (w := w) (base := base) T
  have kp_is_amid := F_is_amid.kp
  have b_is_amid : Binds K fd_is_amid ["thing", "least", "most"] [] := FunD.bindsN F_is_amid (fun _ _ _ _ _ _ us hl => match us, hl with | [_, _, _], _ => rfl)
  obtain ⟨fd_are_parts, G_are_parts, F_are_parts⟩ := ok_are_parts (P := P) (w := w) (base := base) T
  have kp_are_parts := F_are_parts.kp
  have b_are_parts : Binds K fd_are_parts ["parts"] [] := FunD.bindsN F_are_parts (fun _ _ _ _ _ _ us hl => match us, hl with | [_], _ => rfl)
  obtain ⟨fd_is_time, G_is_time, F_is_time⟩ := ok_is_time (P := P) (w := w) (base := base) T
  have kp_is_time := F_is_time.kp
  have b_is_time : Binds K fd_is_time ["thing"] [] := FunD.bindsN F_is_time (fun _ _ _ _ _ _ us hl => match us, hl with | [_], _ => rfl)
  obtain ⟨t_MOST_cues, g_MOST_cues⟩ := int_MOST_cues T
  have cl_Cue := cls_Cue T
  have na_Cue_number := na_Cue_number T
  have na_Cue_parts := na_Cue_parts T
  have na_Cue_stops := na_Cue_stops T
  have na_Cue_follow := na_Cue_follow T
  have cl_Run := cls_Run T
  have na_Run_number := na_Run_number T
  refine ⟨fd, F.ok sc_Cue_init (by walk_at "g94len") (fun cdv A outer st H vs Q E hr h => ?_), F⟩
  · obtain ⟨y, dx, l, x, n, f, rfl, hy, hl, hp, n0, n1, hf, k⟩ := h
    refine ⟨_, PSs.nox (pss_cons (ps_if (pt_not (pt_val (pe_call G_is_amid (hr.mono (by decide)) rfl (glo_is_amid T) kp_is_amid b_is_amid .nil pass0 (pa_cons (pv 1) (pa_cons pe_int (pa_cons (pe_glob (v := .int 1000000000) rfl g_MOST_cues ⟨_, rfl⟩) pa_nil)))))) (pss_one ps_never) pss_nil)
        (pss_cons (ps_if (pt_not (pt_val (pe_call G_are_parts (hr.mono (by decide)) rfl (glo_are_parts T) kp_are_parts b_are_parts .nil pass0 (pa_cons (pv 2) pa_nil)))) (pss_one ps_never) pss_nil)
        (pss_cons (ps_if (PW.pt (pw_and (pt_cmpR op_notN (pv 4) pe_non (nomark _)) (pw_and1 (pt_not (pt_val (pe_call G_is_time (hr.mono (by decide)) rfl (glo_is_time T) kp_is_time b_is_time .nil pass0 (pa_cons (pv 4) pa_nil))))))) (pss_one ps_never) pss_nil)
        (pss_cons (ps_fldK (pv 0) (pv 1) rfl)
        (pss_cons (ps_fldK (pv 0) (pe_callTy call_listK (by rfl) (free_list T) (by decide +kernel) (pa_cons (pv 2) pa_nil)) rfl)
        (pss_cons (ps_fldK (pv 0) (pv 3) rfl)
        (pss_one (ps_fldK (pv 0) (pv 4) rfl)))))))), ?_⟩
    have nxy : x ≠ y := by
      obtain ⟨ex, et, ea, er, ef, ew, k1, k2, k3⟩ := hp.ob
      exact ne_of k1 hy (ins_ne (by show (5 : Nat) ≠ 0; decide))
    walk_at "wks"
    intro H1 s1
    have hl1 := s1 _ _ hl
    have hp1 := hp.same s1
    cases f with
    | none =>
      walk_at "wks"
      rename_i G1 m1 h1 p2 G2 f2 s2 h2 G3 m3 h3 G4 m4 h4 G5 m5 h5
      obtain ⟨ex, et, ea, er, ef, ew, k1, k2, k3⟩ := hp1.ob
      have e1 : G5 y = some (.ins (cC K) dx (cfl n p2 false none)) := h5
      have e2 : G5 p2 = some (.lst [.ref x]) := by walk_at "hp"
      have e3 : PartAt K G5 x := ⟨⟨ex, et, ea, er, ef, ew, by walk_at "hp", by walk_at "hp", by walk_at "hp"⟩⟩
      exact k p2 _ (by walk_at "bt") (s1.fresh (Fr.but f2 m1 h1)) e1 e2 e3
    | some t =>
      walk_at "wks"
      rename_i G1 m1 h1 p2 G2 f2 s2 h2 G3 m3 h3 G4 m4 h4 G5 m5 h5
      obtain ⟨ex, et, ea, er, ef, ew, k1, k2, k3⟩ := hp1.ob
      exact k p2 _ (by walk_at "bt") (s1.fresh (Fr.but f2 m1 h1)) (by walk_at "hp") (by walk_at "hp") ⟨⟨ex, et, ea, er, ef, ew, by walk_at "hp", by walk_at "hp", by walk_at "hp"⟩⟩
/-! ### lists of cues -/
def Cues (K : PySem.W.Frag) (H : Hp) (xs : List Addr) (cs : List Cu) : Prop := Paired (CueAt K H) xs cs
theorem Cues.same {K : PySem.W.Frag} {H H' : Hp} {xs : List Addr} {cs : List Cu} (h : Cues K H xs cs) (s : Same H H') : Cues K H' xs cs := Paired.mapP h fun _ _ c => c.same s
theorem Cues.at {K : PySem.W.Frag} {H : Hp} : ∀ {xs : List Addr} {cs : List Cu} {i : Nat} {y : V}, Cues K H xs cs → (xs.map V.ref)[i]? = some y → ∃ x c, y = .ref x ∧ xs[i]? = some x ∧ cs[i]? = some c ∧ CueAt K H x c
  | _, _, 0, y, .cons (a := x) (b := c) h t, e => ⟨x, c, (Option.some.inj e).symm, rfl, rfl, h⟩
  | x :: xs, c :: cs, i + 1, y, .cons h t, e => Cues.at (xs := xs) (cs := cs) (i := i) t e
/-- numbers that rise, from above the first one -/
def Rising : Int → List Cu → Prop
  | _, [] => True
  | n, c :: r => n < c.1 ∧ Rising c.1 r
structure CuesIn (K : PySem.W.Frag) (H : Hp) (xs : List Addr) (cs : List Cu) : Prop where
  at_ : Cues K H xs cs
  up : Rising 0 cs
  few : cs.length ≤ 1000
theorem CuesIn.same {K : PySem.W.Frag} {H H' : Hp} {xs : List Addr} {cs : List Cu} (h : CuesIn K H xs cs) (s : Same H H') : CuesIn K H' xs cs := ⟨h.at_.same s, h.up, h.few⟩
theorem Cues.len {K : PySem.W.Frag} {H : Hp} {xs : List Addr} {cs : List Cu} (h : Cues K H xs cs) : xs.length = cs.length := Paired.length h
def numAtI (n : Int) (cs : List Cu) (i : Nat) : Int := ((cs.take i).getLast?.map (·.1)).getD n
theorem rising_at : ∀ {n : Int} {cs : List Cu} {i : Nat} {c : Cu}, Rising n cs → cs[i]? = some c → numAtI n cs i < c.1 ∧ numAtI n cs (i + 1) = c.1
  | n, d :: r, 0, c, h, e => by
    have e2 : d = c := Option.some.inj e
    subst e2
    exact ⟨h.1, rfl⟩
  | n, d :: r, i + 1, c, h, e => by
    have ih := rising_at (n := d.1) (i := i) h.2 (show r[i]? = some c from e)
    have k : ∀ j, numAtI n (d :: r) (j + 1) = numAtI d.1 r j := fun j => by
      unfold numAtI
      rw [List.take_succ_cons]
      cases h0 : (r.take j).getLast? with
      | none =>
        rw [List.getLast?_eq_none_iff] at h0
        rw [h0]
        rfl
      | some z =>
        rw [List.getLast?_cons, h0]
        rfl
    rw [k, k]
    exact ih
def spList (K : PySem.W.Frag) : Sp := fun vs H Q _ => ∃ (a : Addr) (xs : List Addr) (cs : List Cu), vs = [.ref a] ∧ H a = some (.lst (xs.map V.ref)) ∧ CuesIn K H xs cs ∧ ∀ (p : Addr) H', Fr H p → Same H H' → H' p = some (.lst (xs.map V.ref)) → Q (.ref p) H'
theorem ok_cue_list (T : Txt K mg) : ∃ fd, FnOk P w K mg base CX0 1 (He.fAd K ("cue_list", none)) fd ["cues"] (spList K) ∧ FunD K "cue_list" "cue_list" (defArgs s_cue_list) (defBody s_cue_list) (defScope s_cue_list) [] [] (He.fAd K ("cue_list", none)) fd := by
  obtain ⟨fd, F⟩ := T.c.def_ 11 (d := d_cue_list) rfl
  have cl_Cue := cls_Cue T
  have na_Cue_number := na_Cue_number T
  have cl_Run := cls_Run T
  have na_Run_number := na_Run_number T
  refine ⟨fd, F.ok sc_cue_list (by walk_at "g94len") (fun cdv A outer st H vs Q E hr h => ?_), F⟩
  · obtain ⟨a, xs, cs, rfl, ha, hc, k⟩ := h
    refine ⟨_, PSs.nox (pss_cons (ps_if (pt_not (pt_val (pe_callB call_isi (by rfl) (free_isinstance T) (by decide +kernel) (pa_cons (pv 0) (pa_cons (pe_bltn (v := .ty "list") (by rfl) (free_list T) (by decide +kernel) rfl) pa_nil))))) (pss_one ps_never) pss_nil)
        (pss_cons (ps_set (i := 1) sc_cue_list.nd rfl (Or.inl rfl) pe_int)
        (pss_cons (ps_for PassesOwn.never rfl (pi_list (pv 0)) (pg_name (i := 2) sc_cue_list.nd rfl (Or.inl rfl)) (pss_cons (ps_if (PW.pt (pw_or (pt_not (pt_val (pe_callB (C8.call_isC (ins_Cue T)) (by rfl) (free_isinstance T) (by decide +kernel) (pa_cons (pv 2) (pa_cons (pe_glob (v := .ref (He.ga K "Cue")) rfl (glo_Cue T) rfl) pa_nil))))) (pw_or1 (pt_cmpR op_le (pe_fld (pv 2) rfl) (pv 1) (nomark _))))) (pss_one ps_never) pss_nil)
        (pss_one (ps_set (i := 1) sc_cue_list.nd rfl (Or.inl rfl) (pe_fld (pv 2) rfl)))))
        (pss_one (ps_ret (pe_callTy call_listK (by rfl) (free_list T) (by decide +kernel) (pa_cons (pv 0) pa_nil))))))), ?_⟩
    walk_at "wks"
    refine ⟨⟨_, .of ha⟩, for_list (K := K) (a := a) (xs := xs.map V.ref) (fun i σ' H' => ∃ w : Option V, σ' = [some (.ref a), some (.int (numAtI 0 cs i)), w] ∧ H' = H) ⟨_, rfl, rfl⟩ (fun i σ' H' _ ⟨_, _, e⟩ => by rw [e]; exact .of ha) ?_ ?_⟩
    · rintro i y σ' H' hi ⟨w, rfl, rfl⟩
      obtain ⟨x, c, rfl, _, hci, ⟨dx, l, p, hx, _, _⟩⟩ := hc.at_.at hi
      obtain ⟨h1, h2⟩ := rising_at hc.up hci
      refine ⟨_, rfl, x, dx, _, rfl, hx, _, rfl, iteF ?_⟩
      walk_at "wks"
      refine iteDF (by omega) ?_
      walk_at "wks"
      refine ⟨some (V.ref x), ?_, rfl⟩
      rw [h2]
      rfl
    · rintro σ' H' ⟨w, rfl, rfl⟩
      walk_at "wks"
      exact k _ _ (by assumption) (by walk_at "sm") (by assumption)
def spGoodN : Sp := fun vs H Q _ => ∃ n : Int, vs = [.int n] ∧ 0 ≤ n ∧ Q (.int n) H
theorem ok_good_number (T : Txt K mg) : ∃ fd, FnOk P w K mg base CX0 1 (He.fAd K ("good_number", none)) fd ["number"] spGoodN ∧ FunD K "good_number" "good_number" (defArgs s_good_number) (defBody s_good_number) (defScope s_good_number) [] [] (He.fAd K ("good_number", none)) fd := by
  obtain ⟨fd, F⟩ := T.c.def_ 12 (d := d_good_number) rfl
  refine ⟨fd, F.ok sc_good_number (by walk_at "g94len") (fun cdv A outer st H vs Q E hr h => ?_), F⟩
  · obtain ⟨n, rfl, h0, k⟩ := h
    refine ⟨_, PSs.nox (pss_cons (ps_if (PW.pt (pw_or (pt_not (pt_val (pe_callB call_isi (by rfl) (free_isinstance T) (by decide +kernel) (pa_cons (pv 0) (pa_cons (pe_bltn (v := .ty "int") (by rfl) (free_int T) (by decide +kernel) rfl) pa_nil))))) (pw_or (pt_val (pe_callB call_isi (by rfl) (free_isinstance T) (by decide +kernel) (pa_cons (pv 0) (pa_cons (pe_bltn (v := .ty "bool") (by rfl) (free_bool T) (by decide +kernel) rfl) pa_nil)))) (pw_or1 (pt_cmpR op_lt (pv 0) pe_int (nomark _)))))) (pss_one ps_never) pss_nil)
        (pss_one (ps_ret (pv 0)))), ?_⟩
    walk_at "wks"
    refine iteDF (by omega) ?_
    walk_at "wks"
    exact k
/-! ### looks by numbers -/
theorem drop_at {α : Type} {l : List α} {i : Nat} {x : α} (h : l[i]? = some x) : l.drop i = x :: l.drop (i + 1) := by
  obtain ⟨hi, e⟩ := List.getElem?_eq_some_iff.mp h
  rw [← e]
  exact List.drop_eq_getElem_cons hi
theorem take_snoc {α : Type} {l : List α} {i : Nat} {x : α} (h : l[i]? = some x) : l.take (i + 1) = l.take i ++ [x] := by
  rw [List.take_add_one, h]
  rfl
def aboveN (n : Int) : List Cu → Int
  | [] => 0
  | c :: r => if n < c.1 then c.1 else aboveN n r
def belowN (n : Int) (cs : List Cu) : Int := cs.foldl (fun f c => if c.1 < n then c.1 else f) 0
def cueN (n : Int) : List Cu → Option Cu
  | [] => none
  | c :: r => if c.1 = n then some c else cueN n r
def spAbove (K : PySem.W.Frag) : Sp := fun vs H Q _ => ∃ (a : Addr) (xs : List Addr) (cs : List Cu) (n : Int), vs = [.ref a, .int n] ∧ H a = some (.lst (xs.map V.ref)) ∧ CuesIn K H xs cs ∧ 0 ≤ n ∧ ∀ H', Same H H' → Q (.int (aboveN n cs)) H'
theorem ok_above (T : Txt K mg) : ∃ fd, FnOk P w K mg base CX0 2 (He.fAd K ("above", none)) fd ["cues", "number"] (spAbove K) ∧ FunD K "above" "above" (defArgs s_above) (defBody s_above) (defScope s_above) [] [] (He.fAd K ("above", none)) fd := by
  obtain ⟨fd, F⟩ := T.c.def_ 14 (d := d_above) rfl
  obtain ⟨fd_cue_list, G_cue_list, F_cue_list⟩ := ok_cue_list (P := P) (w := w) (base := base) T
  have kp_cue_list := F_cue_list.kp
  have b_cue_list : Binds K fd_cue_list ["cues"] [] := FunD.bindsN F_cue_list (fun _ _ _ _ _ _ us hl => match us, hl with | [_], _ => rfl)
  obtain ⟨fd_good_number, G_good_number, F_good_number⟩ := ok_good_number (P := P) (w := w) (base := base) T
  have kp_good_number := F_good_number.kp
  have b_good_number : Binds K fd_good_number ["number"] [] := FunD.bindsN F_good_number (fun _ _ _ _ _ _ us hl => match us, hl with | [_], _ => rfl)
  have cl_Cue := cls_Cue T
  have na_Cue_number := na_Cue_number T
  have cl_Run := cls_Run T
  have na_Run_number := na_Run_number T
  refine ⟨fd, F.ok sc_above (by walk_at "g94len") (fun cdv A outer st H vs Q E hr h => ?_), F⟩
  · obtain ⟨a, xs, cs, n, rfl, ha, hc, n0, k⟩ := h
    refine ⟨_, PSs.nox (pss_cons (ps_set (i := 2) sc_above.nd rfl (Or.inl rfl) (pe_call G_cue_list (hr.mono (by decide)) rfl (glo_cue_list T) kp_cue_list b_cue_list .nil pass0 (pa_cons (pv 0) pa_nil)))
        (pss_cons (ps_set (i := 3) sc_above.nd rfl (Or.inl rfl) (pe_call G_good_number (hr.mono (by decide)) rfl (glo_good_number T) kp_good_number b_good_number .nil pass0 (pa_cons (pv 1) pa_nil)))
        (pss_cons (ps_for PassesOwn.never rfl (pi_list (pv 2)) (pg_name (i := 4) sc_above.nd rfl (Or.inl rfl)) (pss_one (ps_if (pt_cmpR op_gt (pe_fld (pv 4) rfl) (pv 3) (nomark _)) (pss_one (ps_ret (pe_fld (pv 4) rfl))) pss_nil)))
        (pss_one (ps_ret pe_int))))), ?_⟩
    refine ⟨_, rfl, a, xs, cs, rfl, ha, hc, fun p H1 f1 s1 h1 => ?_⟩
    have hc1 := hc.same s1
    walk_at "wks"
    refine ⟨⟨_, .of h1⟩, for_list (K := K) (a := p) (xs := xs.map V.ref) (fun i σ' H' => ∃ w : Option V, σ' = [some (.ref a), some (.int n), some (.ref p), some (.int n), w] ∧ H' = H1 ∧ aboveN n cs = aboveN n (cs.drop i)) ⟨_, rfl, rfl, rfl⟩ (fun i σ' H' _ ⟨_, _, e, _⟩ => by rw [e]; exact .of h1) ?_ ?_⟩
    · rintro i y σ' H' hi ⟨w, rfl, rfl, hd⟩
      obtain ⟨x, c, rfl, _, hci, ⟨dx, l, q, hx, _, _⟩⟩ := hc1.at_.at hi
      rw [drop_at hci] at hd
      walk_at "wks"
      refine iteD (fun c1 => ?_) (fun c1 => ?_)
      · walk_at "wks"
        rw [show c.1 = aboveN n cs from (hd.trans (if_pos c1)).symm]
        exact k _ (by walk_at "sm")
      · exact ⟨_, rfl, rfl, hd.trans (if_neg c1)⟩
    · rintro σ' H' ⟨w, rfl, rfl, hd⟩
      rw [List.length_map, hc1.at_.len, List.drop_length] at hd
      rw [hd] at k
      exact k _ (by walk_at "sm")
def spBelow (K : PySem.W.Frag) : Sp := fun vs H Q _ => ∃ (a : Addr) (xs : List Addr) (cs : List Cu) (n : Int), vs = [.ref a, .int n] ∧ H a = some (.lst (xs.map V.ref)) ∧ CuesIn K H xs cs ∧ 0 ≤ n ∧ ∀ H', Same H H' → Q (.int (belowN n cs)) H'
theorem ok_below (T : Txt K mg) : ∃ fd, FnOk P w K mg base CX0 2 (He.fAd K ("below", none)) fd ["cues", "number"] (spBelow K) ∧ FunD K "below" "below" (defArgs s_below) (defBody s_below) (defScope s_below) [] [] (He.fAd K ("below", none)) fd := by
  obtain ⟨fd, F⟩ := T.c.def_ 15 (d := d_below) rfl
  obtain ⟨fd_cue_list, G_cue_list, F_cue_list⟩ := ok_cue_list (P := P) (w := w) (base := base) T
  have kp_cue_list := F_cue_list.kp
  have b_cue_list : Binds K fd_cue_list ["cues"] [] := FunD.bindsN F_cue_list (fun _ _ _ _ _ _ us hl => match us, hl with | [_], _ => rfl)
  obtain ⟨fd_good_number, G_good_number, F_good_number⟩ := ok_good_number (P := P) (w := w) (base := base) T
  have kp_good_number := F_good_number.kp
  have b_good_number : Binds K fd_good_number ["number"] [] := FunD.bindsN F_good_number (fun _ _ _ _ _ _ us hl => match us, hl with | [_], _ => rfl)
  have cl_Cue := cls_Cue T
  have na_Cue_number := na_Cue_number T
  have cl_Run := cls_Run T
  have na_Run_number := na_Run_number T
  refine ⟨fd, F.ok sc_below (by walk_at "g94len") (fun cdv A outer st H vs Q E hr h => ?_), F⟩
  · obtain ⟨a, xs, cs, n, rfl, ha, hc, n0, k⟩ := h
    refine ⟨_, PSs.nox (pss_cons (ps_set (i := 2) sc_below.nd rfl (Or.inl rfl) (pe_call G_cue_list (hr.mono (by decide)) rfl (glo_cue_list T) kp_cue_list b_cue_list .nil pass0 (pa_cons (pv 0) pa_nil)))
        (pss_cons (ps_set (i := 3) sc_below.nd rfl (Or.inl rfl) (pe_call G_good_number (hr.mono (by decide)) rfl (glo_good_number T) kp_good_number b_good_number .nil pass0 (pa_cons (pv 1) pa_nil)))
        (pss_cons (ps_set (i := 4) sc_below.nd rfl (Or.inl rfl) pe_int)
        (pss_cons (ps_for PassesOwn.never rfl (pi_list (pv 2)) (pg_name (i := 5) sc_below.nd rfl (Or.inl rfl)) (pss_one (ps_if (pt_cmpR op_lt (pe_fld (pv 5) rfl) (pv 3) (nomark _)) (pss_one (ps_set (i := 4) sc_below.nd rfl (Or.inl rfl) (pe_fld (pv 5) rfl))) pss_nil)))
        (pss_one (ps_ret (pv 4))))))), ?_⟩
    refine ⟨_, rfl, a, xs, cs, rfl, ha, hc, fun p H1 f1 s1 h1 => ?_⟩
    have hc1 := hc.same s1
    walk_at "wks"
    refine ⟨⟨_, .of h1⟩, for_list (K := K) (a := p) (xs := xs.map V.ref) (fun i σ' H' => ∃ w : Option V, σ' = [some (.ref a), some (.int n), some (.ref p), some (.int n), some (.int (belowN n (cs.take i))), w] ∧ H' = H1) ⟨_, rfl, rfl⟩ (fun i σ' H' _ ⟨_, _, e⟩ => by rw [e]; exact .of h1) ?_ ?_⟩
    · rintro i y σ' H' hi ⟨w, rfl, rfl⟩
      obtain ⟨x, c, rfl, _, hci, ⟨dx, l, q, hx, _, _⟩⟩ := hc1.at_.at hi
      have e : belowN n (cs.take (i + 1)) = if c.1 < n then c.1 else belowN n (cs.take i) := by
        unfold belowN
        rw [take_snoc hci, List.foldl_append]
        rfl
      rw [e]
      walk_at "wks"
      refine iteD (fun c1 => ?_) (fun c1 => ?_)
      · rw [if_pos c1]
        walk_at "wks"
        exact rfl
      · rw [if_neg c1]
        exact ⟨_, rfl, rfl⟩
    · rintro σ' H' ⟨w, rfl, rfl⟩
      rw [List.length_map, hc1.at_.len, List.take_length]
      walk_at "wks"
      exact k _ (by walk_at "sm")
/-! ### looks of cues that tell nothing -/
def spCueO (K : PySem.W.Frag) : Sp := fun vs H Q _ => ∃ (a : Addr) (xs : List Addr) (cs : List Cu) (n : Int), vs = [.ref a, .int n] ∧ H a = some (.lst (xs.map V.ref)) ∧ CuesIn K H xs cs ∧ 0 ≤ n ∧
  (∀ c, cueN n cs = some c → ∀ (y : Addr) H', Same H H' → CueAt K H' y c → Q (.ref y) H') ∧ (cueN n cs = none → ∀ H', Same H H' → Q .non H')
theorem ok_cue_at (T : Txt K mg) : ∃ fd, FnOk P w K mg base CX0 2 (He.fAd K ("cue_at", none)) fd ["cues", "number"] (spCueO K) ∧ FunD K "cue_at" "cue_at" (defArgs s_cue_at) (defBody s_cue_at) (defScope s_cue_at) [] [] (He.fAd K ("cue_at", none)) fd := by
  obtain ⟨fd, F⟩ := T.c.def_ 13 (d := d_cue_at) rfl
  obtain ⟨fd_cue_list, G_cue_list, F_cue_list⟩ := ok_cue_list (P := P) (w := w) (base := base) T
  have kp_cue_list := F_cue_list.kp
  have b_cue_list : Binds K fd_cue_list ["cues"] [] := FunD.bindsN F_cue_list (fun _ _ _ _ _ _ us hl => match us, hl with | [_], _ => rfl)
  obtain ⟨fd_good_number, G_good_number, F_good_number⟩ := ok_good_number (P := P) (w := w) (base := base) T
  have kp_good_number := F_good_number.kp
  have b_good_number : Binds K fd_good_number ["number"] [] := FunD.bindsN F_good_number (fun _ _ _ _ _ _ us hl => match us, hl with | [_], _ => rfl)
  have cl_Cue := cls_Cue T
  have na_Cue_number := na_Cue_number T
  have cl_Run := cls_Run T
  have na_Run_number := na_Run_number T
  refine ⟨fd, F.ok sc_cue_at (by walk_at "g94len") (fun cdv A outer st H vs Q E hr h => ?_), F⟩
  · obtain ⟨a, xs, cs, n, rfl, ha, hc, n0, k, kn⟩ := h
    refine ⟨_, PSs.nox (pss_cons (ps_set (i := 2) sc_cue_at.nd rfl (Or.inl rfl) (pe_call G_cue_list (hr.mono (by decide)) rfl (glo_cue_list T) kp_cue_list b_cue_list .nil pass0 (pa_cons (pv 0) pa_nil)))
        (pss_cons (ps_set (i := 3) sc_cue_at.nd rfl (Or.inl rfl) (pe_call G_good_number (hr.mono (by decide)) rfl (glo_good_number T) kp_good_number b_good_number .nil pass0 (pa_cons (pv 1) pa_nil)))
        (pss_cons (ps_for PassesOwn.never rfl (pi_list (pv 2)) (pg_name (i := 4) sc_cue_at.nd rfl (Or.inl rfl)) (pss_one (ps_if (pt_cmpR op_eq (pe_fld (pv 4) rfl) (pv 3) (nomark _)) (pss_one (ps_ret (pv 4))) pss_nil)))
        (pss_one (ps_ret pe_non))))), ?_⟩
    refine ⟨_, rfl, a, xs, cs, rfl, ha, hc, fun p H1 f1 s1 h1 => ?_⟩
    have hc1 := hc.same s1
    walk_at "wks"
    refine ⟨⟨_, .of h1⟩, for_list (K := K) (a := p) (xs := xs.map V.ref) (fun i σ' H' => ∃ w : Option V, σ' = [some (.ref a), some (.int n), some (.ref p), some (.int n), w] ∧ H' = H1 ∧ cueN n (cs.drop i) = cueN n cs) ⟨_, rfl, rfl, rfl⟩ (fun i σ' H' _ ⟨_, _, e, _⟩ => by rw [e]; exact .of h1) ?_ ?_⟩
    · rintro i y σ' H' hi ⟨wz, rfl, rfl, hd⟩
      obtain ⟨x, c, rfl, _, hci, hx0⟩ := hc1.at_.at hi
      obtain ⟨dx, l, q, hx, _, _⟩ := id hx0
      rw [drop_at hci] at hd
      walk_at "wks"
      refine iteV (fun c1 => ?_) (fun c1 => ?_)
      · walk_at "wks"
        exact k c (hd.symm.trans (if_pos c1)) x _ (by walk_at "sm") hx0
      · exact ⟨_, rfl, rfl, (if_neg c1).symm.trans hd⟩
    · rintro σ' H' ⟨wz, rfl, rfl, hd⟩
      rw [List.length_map, hc1.at_.len, List.drop_length] at hd
      walk_at "wks"
      exact kn hd.symm _ (by walk_at "sm")
def spPutIn : Sp := fun vs H Q _ => ∃ l d : Addr, vs = [.ref l, .ref d] ∧ H d = some (.dK []) ∧ Q .non H
theorem ok_put_in_look (T : Txt K mg) : ∃ fd, FnOk P w K mg base CX0 1 (He.fAd K ("put_in_look", none)) fd ["look", "told"] spPutIn ∧ FunD K "put_in_look" "put_in_look" (defArgs s_put_in_look) (defBody s_put_in_look) (defScope s_put_in_look) [] [] (He.fAd K ("put_in_look", none)) fd := by
  obtain ⟨fd, F⟩ := T.c.def_ 16 (d := d_put_in_look) rfl
  refine ⟨fd, F.ok sc_put_in_look (by walk_at "g94len") (fun cdv A outer st H vs Q E hr h => ?_), F⟩
  · obtain ⟨l, d, rfl, hd, k⟩ := h
    refine ⟨_, PSs.nox (pss_one (ps_lock (ps_for PassesOwn.never rfl (pi_items (pv 1)) (pg_tup rfl (pgs_cons (pg_name (i := 2) sc_put_in_look.nd rfl (Or.inl rfl)) (pgs_cons (pg_name (i := 3) sc_put_in_look.nd rfl (Or.inl rfl)) pgs_nil))) pss_never))), ?_⟩
    exact lock_items0 hd (fun od Q q => ⟨_, rfl, q⟩) k
def spLook (K : PySem.W.Frag) : Sp := fun vs H Q _ => ∃ (a : Addr) (xs : List Addr) (cs : List Cu) (n : Int), vs = [.ref a, .int n] ∧ H a = some (.lst (xs.map V.ref)) ∧ CuesIn K H xs cs ∧ 0 ≤ n ∧ ∀ (p : Addr) H', Same H H' → H' p = some (.dK []) → Q (.ref p) H'
theorem ok_carried (T : Txt K mg) : ∃ fd, FnOk P w K mg base CX0 2 (He.fAd K ("carried", none)) fd ["cues", "number"] (spLook K) ∧ FunD K "carried" "carried" (defArgs s_carried) (defBody s_carried) (defScope s_carried) [] [] (He.fAd K ("carried", none)) fd := by
  obtain ⟨fd, F⟩ := T.c.def_ 17 (d := d_carried) rfl
  obtain ⟨fd_cue_list, G_cue_list, F_cue_list⟩ := ok_cue_list (P := P) (w := w) (base := base) T
  have kp_cue_list := F_cue_list.kp
  have b_cue_list : Binds K fd_cue_list ["cues"] [] := FunD.bindsN F_cue_list (fun _ _ _ _ _ _ us hl => match us, hl with | [_], _ => rfl)
  obtain ⟨fd_good_number, G_good_number, F_good_number⟩ := ok_good_number (P := P) (w := w) (base := base) T
  have kp_good_number := F_good_number.kp
  have b_good_number : Binds K fd_good_number ["number"] [] := FunD.bindsN F_good_number (fun _ _ _ _ _ _ us hl => match us, hl with | [_], _ => rfl)
  obtain ⟨fd_put_in_look, G_put_in_look, F_put_in_look⟩ := ok_put_in_look (P := P) (w := w) (base := base) T
  have kp_put_in_look := F_put_in_look.kp
  have b_put_in_look : Binds K fd_put_in_look ["look", "told"] [] := FunD.bindsN F_put_in_look (fun _ _ _ _ _ _ us hl => match us, hl with | [_, _], _ => rfl)
  have cl_Part := cls_Part T
  have na_Part_tells := na_Part_tells T
  have cl_Cue := cls_Cue T
  have na_Cue_number := na_Cue_number T
  have na_Cue_parts := na_Cue_parts T
  have na_Cue_stops := na_Cue_stops T
  have cl_Run := cls_Run T
  have na_Run_number := na_Run_number T
  refine ⟨fd, F.ok sc_carried (by walk_at "g94len") (fun cdv A outer st H vs Q E hr h => ?_), F⟩
  · obtain ⟨a, xs, cs, n, rfl, ha, hc, n0, k⟩ := h
    refine ⟨_, PSs.nox (pss_cons (ps_set (i := 2) sc_carried.nd rfl (Or.inl rfl) (pe_call G_cue_list (hr.mono (by decide)) rfl (glo_cue_list T) kp_cue_list b_cue_list .nil pass0 (pa_cons (pv 0) pa_nil)))
        (pss_cons (ps_set (i := 3) sc_carried.nd rfl (Or.inl rfl) (pe_call G_good_number (hr.mono (by decide)) rfl (glo_good_number T) kp_good_number b_good_number .nil pass0 (pa_cons (pv 1) pa_nil)))
        (pss_cons (ps_set (i := 4) sc_carried.nd rfl (Or.inl rfl) pe_dnewKK)
        (pss_cons (ps_for PassesOwn.never rfl (pi_list (pv 2)) (pg_name (i := 5) sc_carried.nd rfl (Or.inl rfl)) (pss_cons (ps_if (pt_cmpR op_gt (pe_fld (pv 5) rfl) (pv 3) (nomark _)) (pss_one ps_break) pss_nil)
        (C8.pss_cut (ps_if (pt_val (pe_fld (pv 5) rfl)) (pss_one (ps_set (i := 4) sc_carried.nd rfl (Or.inl rfl) pe_dnewKK)) pss_nil)
        (pss_one (ps_for PassesOwn.never rfl (pi_list (pe_fld (pv 5) rfl)) (pg_name (i := 6) sc_carried.nd rfl (Or.inl rfl)) (pss_one (ps_expr (pe_call G_put_in_look (hr.mono (by decide)) rfl (glo_put_in_look T) kp_put_in_look b_put_in_look .nil pass0 (pa_cons (pv 4) (pa_cons (pe_fld (pv 6) rfl) pa_nil))))))))))
        (pss_one (ps_ret (pv 4))))))), ?_⟩
    refine ⟨_, rfl, a, xs, cs, rfl, ha, hc, fun p H1 f1 s1 h1 => ?_⟩
    walk_at "wk"
    walk_at "wk"
    walk_at "wk"
    walk_at "wks"
    rename_i q H2 f2 s2 h2
    have hc2 := hc.same (s1.trans s2)
    have hp2 := s2 _ _ h1
    refine ⟨⟨_, .of hp2⟩, for_list (K := K) (a := p) (xs := xs.map V.ref) (fun i σ' H' => ∃ wz wp : Option V, σ' = [some (.ref a), some (.int n), some (.ref p), some (.int n), some (.ref q), wz, wp] ∧ H' = H2) ⟨_, _, rfl, rfl⟩ (fun i σ' H' _ ⟨_, _, _, e⟩ => by rw [e]; exact .of hp2) ?_ ?_⟩
    · rintro i y σ' H' hi ⟨wz, wp, rfl, rfl⟩
      obtain ⟨x, c, rfl, _, hci, hx0⟩ := hc2.at_.at hi
      obtain ⟨dx, l, pt, hx, hl, ⟨dp, t, al, r, f, w', hp, ht, hal⟩⟩ := hx0.ob
      walk_at "wks"
      refine iteD (fun c1 => ?_) (fun c1 => ?_)
      · walk_at "wks"
        exact k q _ (by walk_at "sm") h2
      · refine ⟨fun σ'' H'' => σ'' = [some (.ref a), some (.int n), some (.ref p), some (.int n), some (.ref q), some (.ref x), wp] ∧ H'' = H', ?_, ?_⟩
        · walk_at "wks"
          rfl
        rintro σ'' H'' ⟨rfl, rfl⟩
        walk_at "wks"
        refine ⟨⟨_, .of hl⟩, for_list (K := K) (a := l) (xs := [.ref pt]) (fun i σ3 H3 => ∃ wp : Option V, σ3 = [some (.ref a), some (.int n), some (.ref p), some (.int n), some (.ref q), some (.ref x), wp] ∧ H3 = H'') ⟨_, rfl, rfl⟩ (fun i σ' H' _ ⟨_, _, e⟩ => by rw [e]; exact .of hl) ?_ ?_⟩
        · rintro i y σ' H' hi ⟨wp, rfl, rfl⟩
          obtain ⟨rfl, rfl⟩ : i = 0 ∧ y = V.ref pt := by
            match i, hi with
            | 0, hi => exact ⟨rfl, (Option.some.inj hi).symm⟩
          walk_at "wks"
          exact rfl
        · rintro σ' H' ⟨wp, rfl, rfl⟩
          exact ⟨_, _, rfl, rfl⟩
    · rintro σ' H' ⟨wz, wp, rfl, rfl⟩
      walk_at "wks"
      exact k q _ (by walk_at "sm") h2
theorem ok_shown (T : Txt K mg) : ∃ fd, FnOk P w K mg base CX0 3 (He.fAd K ("shown", none)) fd ["cues", "number"] (spLook K) ∧ FunD K "shown" "shown" (defArgs s_shown) (defBody s_shown) (defScope s_shown) [] [] (He.fAd K ("shown", none)) fd := by
  obtain ⟨fd, F⟩ := T.c.def_ 18 (d := d_shown) rfl
  obtain ⟨fd_carried, G_carried, F_carried⟩ := ok_carried (P := P) (w := w) (base := base) T
  have kp_carried := F_carried.kp
  have b_carried : Binds K fd_carried ["cues", "number"] [] := FunD.bindsN F_carried (fun _ _ _ _ _ _ us hl => match us, hl with | [_, _], _ => rfl)
  obtain ⟨fd_cue_at, G_cue_at, F_cue_at⟩ := ok_cue_at (P := P) (w := w) (base := base) T
  have kp_cue_at := F_cue_at.kp
  have b_cue_at : Binds K fd_cue_at ["cues", "number"] [] := FunD.bindsN F_cue_at (fun _ _ _ _ _ _ us hl => match us, hl with | [_, _], _ => rfl)
  obtain ⟨fd_put_in_look, G_put_in_look, F_put_in_look⟩ := ok_put_in_look (P := P) (w := w) (base := base) T
  have kp_put_in_look := F_put_in_look.kp
  have b_put_in_look : Binds K fd_put_in_look ["look", "told"] [] := FunD.bindsN F_put_in_look (fun _ _ _ _ _ _ us hl => match us, hl with | [_, _], _ => rfl)
  have cl_Part := cls_Part T
  have na_Part_alone := na_Part_alone T
  have cl_Cue := cls_Cue T
  have na_Cue_parts := na_Cue_parts T
  refine ⟨fd, F.ok sc_shown (by walk_at "g94len") (fun cdv A outer st H vs Q E hr h => ?_), F⟩
  · obtain ⟨a, xs, cs, n, rfl, ha, hc, n0, k⟩ := h
    refine ⟨_, PSs.nox (pss_cons (ps_set (i := 2) sc_shown.nd rfl (Or.inl rfl) (pe_call G_carried (hr.mono (by decide)) rfl (glo_carried T) kp_carried b_carried .nil pass0 (pa_cons (pv 0) (pa_cons (pv 1) pa_nil))))
        (pss_cons (ps_set (i := 3) sc_shown.nd rfl (Or.inl rfl) (pe_call G_cue_at (hr.mono (by decide)) rfl (glo_cue_at T) kp_cue_at b_cue_at .nil pass0 (pa_cons (pv 0) (pa_cons (pv 1) pa_nil))))
        (C8.pss_cut (ps_if (pt_cmpR op_notN (pv 3) pe_non (nomark _)) (pss_one (ps_for PassesOwn.never rfl (pi_list (pe_fld (pv 3) rfl)) (pg_name (i := 4) sc_shown.nd rfl (Or.inl rfl)) (pss_one (ps_expr (pe_call G_put_in_look (hr.mono (by decide)) rfl (glo_put_in_look T) kp_put_in_look b_put_in_look .nil pass0 (pa_cons (pv 2) (pa_cons (pe_fld (pv 4) rfl) pa_nil))))))) pss_nil)
        (pss_one (ps_ret (pv 2)))))), ?_⟩
    refine ⟨_, rfl, _, rfl, a, xs, cs, n, rfl, ha, hc, n0, fun q H1 s1 h1 => ?_⟩
    have hc1 := hc.same s1
    have ha1 := s1 _ _ ha
    refine ⟨_, rfl, _, rfl, a, xs, cs, n, rfl, ha1, hc1, n0, fun c hcn y H2 s2 hy => ?_, fun hcn H2 s2 => ?_⟩
    · obtain ⟨dx, l, pt, hx, hl, ⟨dp, t, al, r, f, w', hp, ht, hal⟩⟩ := hy.ob
      have h2 := s2 _ _ h1
      refine ⟨fun σ' H' => ∃ wp : Option V, σ' = [some (.ref a), some (.int n), some (.ref q), some (.ref y), wp] ∧ H' = H2, ?_, ?_⟩
      · walk_at "wks"
        refine ⟨⟨_, .of hl⟩, for_list (K := K) (a := l) (xs := [.ref pt]) (fun i σ' H' => ∃ wp : Option V, σ' = [some (.ref a), some (.int n), some (.ref q), some (.ref y), wp] ∧ H' = H2) ⟨_, rfl, rfl⟩ (fun i σ' H' _ ⟨_, _, e⟩ => by rw [e]; exact .of hl) ?_ ?_⟩
        · rintro i y σ' H' hi ⟨wp, rfl, rfl⟩
          obtain ⟨rfl, rfl⟩ : i = 0 ∧ y = V.ref pt := by
            match i, hi with
            | 0, hi => exact ⟨rfl, (Option.some.inj hi).symm⟩
          walk_at "wks"
          exact rfl
        · rintro σ' H' ⟨wp, rfl, rfl⟩
          exact ⟨_, rfl, rfl⟩
      · rintro σ' H' ⟨wp, rfl, rfl⟩
        walk_at "wks"
        exact k q _ (s1.trans s2) h2
    · have h2 := s2 _ _ h1
      refine ⟨fun σ' H' => σ' = [some (.ref a), some (.int n), some (.ref q), some (.non), none] ∧ H' = H2, ?_, ?_⟩
      · walk_at "wks"
        rfl
      · rintro σ' H' ⟨rfl, rfl⟩
        walk_at "wks"
        exact k q _ (s1.trans s2) h2
def spFades (K : PySem.W.Frag) : Sp := fun vs H Q _ => ∃ (c : Int) (a : Addr) (xs : List Addr) (cs : List Cu) (n : Int) (wd : Str) (d : Addr), vs = [.int c, .ref a, .int n, .str wd, .ref d] ∧ H a = some (.lst (xs.map V.ref)) ∧ CuesIn K H xs cs ∧ 0 ≤ n ∧ H d = some (.dK []) ∧
  ∀ (p : Addr) H', Same H H' → H' p = some (.lst []) → Q (.ref p) H'
theorem ok_fades_at (T : Txt K mg) : ∃ fd, FnOk P w K mg base CX0 4 (He.fAd K ("fades_at", none)) fd ["clock", "cues", "number", "word", "aims"] (spFades K) ∧ FunD K "fades_at" "fades_at" (defArgs s_fades_at) (defBody s_fades_at) (defScope s_fades_at) [] [] (He.fAd K ("fades_at", none)) fd := by
  obtain ⟨fd, F⟩ := T.c.def_ 19 (d := d_fades_at) rfl
  obtain ⟨fd_shown, G_shown, F_shown⟩ := ok_shown (P := P) (w := w) (base := base) T
  have kp_shown := F_shown.kp
  have b_shown : Binds K fd_shown ["cues", "number"] [] := FunD.bindsN F_shown (fun _ _ _ _ _ _ us hl => match us, hl with | [_, _], _ => rfl)
  refine ⟨fd, F.ok sc_fades_at (by walk_at "g94len") (fun cdv A outer st H vs Q E hr h => ?_), F⟩
  · obtain ⟨c, a, xs, cs, n, wd, d, rfl, ha, hc, n0, hd, k⟩ := h
    refine ⟨_, PSs.nox (pss_cons (ps_set (i := 5) sc_fades_at.nd rfl (Or.inl rfl) (pe_call G_shown (hr.mono (by decide)) rfl (glo_shown T) kp_shown b_shown .nil pass0 (pa_cons (pv 1) (pa_cons (pv 2) pa_nil))))
        (pss_cons (ps_set (i := 6) sc_fades_at.nd rfl (Or.inl rfl) (pe_lstK pa_nil))
        (pss_cons (ps_for PassesOwn.never rfl (pi_list (pe_callB (cr_sortedS0 rfl) (by rfl) (free_sorted T) (by decide +kernel) (pa_cons (pe_op op_orS0 (pe_callTy call_setD0 (by rfl) (free_set T) (by decide +kernel) (pa_cons (pv 5) pa_nil)) (pe_callTy call_setD0 (by rfl) (free_set T) (by decide +kernel) (pa_cons (pv 4) pa_nil))) pa_nil))) (pg_name (i := 7) sc_fades_at.nd rfl (Or.inl rfl)) pss_never)
        (pss_one (ps_ret (pv 6)))))), ?_⟩
    refine ⟨_, rfl, _, rfl, a, xs, cs, n, rfl, ha, hc, n0, fun q H1 s1 h1 => ?_⟩
    have hd1 := s1 _ _ hd
    walk_at "wks"
    rename_i fo H2 f2 s2 h2 pa H3 f3 s3 h3 pb H4 f4 s4 h4 pc H5 f5 s5 h5 so H6 f6 s6 h6
    refine ⟨⟨_, .of h6⟩, for_list (K := K) (a := so) (xs := []) (fun i σ' H' => σ' = [some (.int c), some (.ref a), some (.int n), some (.str wd), some (.ref d), some (.ref q), some (.ref fo), none, none, none, none, none] ∧ H' = H6) ⟨rfl, rfl⟩ (fun i σ' H' _ ⟨_, e⟩ => by rw [e]; exact .of h6) (fun i y σ' H' hi _ => by cases i <;> cases hi) ?_⟩
    rintro σ' H' ⟨rfl, rfl⟩
    walk_at "wks"
    exact k fo _ (by walk_at "sm") (by walk_at "hp")
/-! ### runs -/
abbrev cR (K : PySem.W.Frag) : Addr := He.ga K "Run"
abbrev rufl (a : Addr) (n t s : Int) (d1 d2 : Addr) : List (Str × V) := [("cues", .ref a), ("number", .int n), ("due", .non), ("tick", .int t), ("showed", .int s), ("going", .bl true), ("aims", .ref d1), ("motions", .ref d2)]
def NoFol (cs : List Cu) : Prop := ∀ c ∈ cs, c.2 = none
structure RunAt (K : PySem.W.Frag) (H : Hp) (x : Addr) (cs : List Cu) (n t : Int) : Prop where
  ob : ∃ (dx a d1 d2 : Addr) (s : Int) (xs : List Addr), H x = some (.ins (cR K) dx (rufl a n t s d1 d2)) ∧ H a = some (.lst (xs.map V.ref)) ∧ CuesIn K H xs cs ∧ H d1 = some (.dK []) ∧ H d2 = some (.dK [])
  n0 : 0 ≤ n
  nf : NoFol cs
theorem RunAt.same {K : PySem.W.Frag} {H H' : Hp} {x : Addr} {cs : List Cu} {n t : Int} (h : RunAt K H x cs n t) (s : Same H H') : RunAt K H' x cs n t := by
  obtain ⟨dx, a, d1, d2, sh, xs, h1, h2, h3, h4, h5⟩ := h.ob
  exact ⟨⟨dx, a, d1, d2, sh, xs, s _ _ h1, s _ _ h2, h3.same s, s _ _ h4, s _ _ h5⟩, h.n0, h.nf⟩
theorem PartAt.butR {K : PySem.W.Frag} {H H' : Hp} {x y C dx : Addr} {fs : List (Str × V)} (h : PartAt K H y) (m : But x H H') (hx : H x = some (.ins C dx fs)) (l : fs.length = 8) : PartAt K H' y := by
  obtain ⟨dy, t, a, r, f, w, h1, h2, h3⟩ := h.ob
  exact ⟨⟨dy, t, a, r, f, w, m.kind hx h1 (ins_ne (by rw [l]; show (5 : Nat) ≠ 8; decide)), m.kind hx h2 (by intro z; cases z), m.kind hx h3 (by intro z; cases z)⟩⟩
theorem CueAt.butR {K : PySem.W.Frag} {H H' : Hp} {x y C dx : Addr} {fs : List (Str × V)} {c : Cu} (h : CueAt K H y c) (m : But x H H') (hx : H x = some (.ins C dx fs)) (l : fs.length = 8) : CueAt K H' y c := by
  obtain ⟨dy, a, p, h1, h2, h3⟩ := h.ob
  exact ⟨⟨dy, a, p, m.kind hx h1 (ins_ne (by rw [l]; show (4 : Nat) ≠ 8; decide)), m.kind hx h2 (by intro z; cases z), h3.butR m hx l⟩⟩
theorem CuesIn.butR {K : PySem.W.Frag} {H H' : Hp} {x C dx : Addr} {fs : List (Str × V)} {xs : List Addr} {cs : List Cu} (h : CuesIn K H xs cs) (m : But x H H') (hx : H x = some (.ins C dx fs)) (l : fs.length = 8) : CuesIn K H' xs cs :=
  ⟨Paired.mapP h.at_ fun _ _ c => c.butR m hx l, h.up, h.few⟩
theorem RunAt.put {K : PySem.W.Frag} {H H' : Hp} {x dx dy a b d1 d2 : Addr} {ys : List Addr} {cs : List Cu} {n t s n' t' s' : Int} (hx : H x = some (.ins (cR K) dx (rufl a n t s d1 d2))) (hb : H b = some (.lst (ys.map V.ref))) (hc : CuesIn K H ys cs) (h1 : H d1 = some (.dK [])) (h2 : H d2 = some (.dK []))
    (n0 : 0 ≤ n') (nf : NoFol cs) (m : But x H H') (hx' : H' x = some (.ins (cR K) dy (rufl b n' t' s' d1 d2))) : RunAt K H' x cs n' t' :=
  ⟨⟨dy, b, d1, d2, s', ys, hx', m.kind hx hb (by intro z; cases z), hc.butR m hx rfl, m.kind hx h1 (by intro z; cases z), m.kind hx h2 (by intro z; cases z)⟩, n0, nf⟩
def spClockR (K : PySem.W.Frag) : Sp := fun vs H Q _ => ∃ (x dx a d1 d2 : Addr) (n t s p b : Int), vs = [.ref x, .int p, .int b] ∧ H x = some (.ins (cR K) dx (rufl a n t s d1 d2)) ∧ t * b ≤ p ∧ 1 ≤ b ∧ b ≤ 1000 ∧ ∀ c : Int, Q (.int c) H
theorem ok_Run_clock_of (T : Txt K mg) : ∃ fd, FnOk P w K mg base CX0 1 (He.fAd K ("Run", some "clock_of")) fd ["self", "top", "bottom"] (spClockR K) ∧ FunD K "clock_of" "Run.clock_of" (defArgs s_Run_clock_of) (defBody s_Run_clock_of) (defScope s_Run_clock_of) [] [] (He.fAd K ("Run", some "clock_of")) fd := by
  obtain ⟨fd, F⟩ := T.c.def_ 21 (d := d_Run_clock_of) rfl
  have cl_Run := cls_Run T
  have na_Run_tick := na_Run_tick T
  have na_Run_showed := na_Run_showed T
  have na_Run_going := na_Run_going T
  refine ⟨fd, F.ok sc_Run_clock_of (by walk_at "g94len") (fun cdv A outer st H vs Q E hr h => ?_), F⟩
  · obtain ⟨x, dx, a, d1, d2, n, t, s, p, b, rfl, hx, hp, b0, b1, k⟩ := h
    refine ⟨_, PSs.nox (pss_cons (ps_if (pt_cmpR op_lt (pv 1) (pe_op op_mul (pe_fld (pv 0) rfl) (pv 2)) (nomark _)) (pss_one ps_never) pss_nil)
        (pss_cons (ps_if (pt_val (pe_fld (pv 0) rfl)) (pss_one (ps_ret (pe_op op_sub (pe_op op_add (pe_op op_mul (pe_fld (pv 0) rfl) (pv 2)) (pv 1)) (pe_op op_mul (pe_fld (pv 0) rfl) (pv 2))))) pss_nil)
        (pss_one (ps_ret (pe_op op_mul (pe_fld (pv 0) rfl) (pv 2)))))), ?_⟩
    walk_at "wks"
    refine iteDF (by omega) ?_
    walk_at "wks"
    exact k _
def spFoll (K : PySem.W.Frag) : Sp := fun vs H Q _ => ∃ (x dx a d1 d2 : Addr) (n t s c : Int), vs = [.ref x, .int c] ∧ H x = some (.ins (cR K) dx (rufl a n t s d1 d2)) ∧ ∀ (p l : Addr) H', Same H H' → H' l = some (.lst []) → H' p = some (.tup [.ref l, .int n, .non]) → Q (.ref p) H'
theorem ok_Run_follow_ons (T : Txt K mg) : ∃ fd, FnOk P w K mg base CX0 3 (He.fAd K ("Run", some "follow_ons")) fd ["self", "clock"] (spFoll K) ∧ FunD K "follow_ons" "Run.follow_ons" (defArgs s_Run_follow_ons) (defBody s_Run_follow_ons) (defScope s_Run_follow_ons) [] [] (He.fAd K ("Run", some "follow_ons")) fd := by
  obtain ⟨fd, F⟩ := T.c.def_ 22 (d := d_Run_follow_ons) rfl
  obtain ⟨fd_above, G_above, F_above⟩ := ok_above (P := P) (w := w) (base := base) T
  have kp_above := F_above.kp
  have b_above : Binds K fd_above ["cues", "number"] [] := FunD.bindsN F_above (fun _ _ _ _ _ _ us hl => match us, hl with | [_, _], _ => rfl)
  obtain ⟨fd_cue_at, G_cue_at, F_cue_at⟩ := ok_cue_at (P := P) (w := w) (base := base) T
  have kp_cue_at := F_cue_at.kp
  have b_cue_at : Binds K fd_cue_at ["cues", "number"] [] := FunD.bindsN F_cue_at (fun _ _ _ _ _ _ us hl => match us, hl with | [_, _], _ => rfl)
  have cl_Cue := cls_Cue T
  have na_Cue_number := na_Cue_number T
  have na_Cue_follow := na_Cue_follow T
  have cl_Run := cls_Run T
  have na_Run_cues := na_Run_cues T
  have na_Run_number := na_Run_number T
  have na_Run_due := na_Run_due T
  refine ⟨fd, F.ok sc_Run_follow_ons (by walk_at "g94len") (fun cdv A outer st H vs Q E hr h => ?_), F⟩
  · obtain ⟨x, dx, a, d1, d2, n, t, s, c, rfl, hx, k⟩ := h
    refine ⟨_, PSs.nox (pss_cons (ps_set (i := 2) sc_Run_follow_ons.nd rfl (Or.inl rfl) (pe_lstK pa_nil))
        (pss_cons (ps_set (i := 3) sc_Run_follow_ons.nd rfl (Or.inl rfl) (pe_fld (pv 0) rfl))
        (pss_cons (ps_set (i := 4) sc_Run_follow_ons.nd rfl (Or.inl rfl) (pe_fld (pv 0) rfl))
        (pss_cons (ps_while PassesOwn.never (PT.up (PW.pt (pw_and (pt_cmpR op_notN (pv 4) pe_non (nomark _)) (pw_and1 (pt_cmpR op_le (pv 4) (pv 1) (nomark _)))))) (pss_cons (ps_set (i := 5) sc_Run_follow_ons.nd rfl (Or.inl rfl) (pe_call G_above (hr.mono (by decide)) rfl (glo_above T) kp_above b_above .nil pass0 (pa_cons (pe_fld (pv 0) rfl) (pa_cons (pv 3) pa_nil))))
        (pss_cons (ps_if (pt_cmpR op_eq (pv 5) pe_int (nomark _)) (pss_one (ps_ret (pe_tupK (pa_cons (pv 2) (pa_cons (pv 3) (pa_cons pe_non pa_nil)))))) pss_nil)
        (pss_cons (ps_set (i := 3) sc_Run_follow_ons.nd rfl (Or.inl rfl) (pv 5))
        (pss_cons (ps_expr (pe_bm PySem.F.plainAttrs_list PySem.F.slot_list_append PySem.F.type_list_append mt_appendK (pv 2) (pa_cons (pe_tupK (pa_cons (pv 4) (pa_cons (pv 3) pa_nil))) pa_nil)))
        (pss_cons (ps_set (i := 6) sc_Run_follow_ons.nd rfl (Or.inl rfl) (pe_fld (pe_call G_cue_at (hr.mono (by decide)) rfl (glo_cue_at T) kp_cue_at b_cue_at .nil pass0 (pa_cons (pe_fld (pv 0) rfl) (pa_cons (pv 3) pa_nil))) rfl))
        (pss_one (ps_if (pt_cmpR op_isN (pv 6) pe_non (nomark _)) (pss_one (ps_set (i := 4) sc_Run_follow_ons.nd rfl (Or.inl rfl) pe_non)) (pss_one (ps_aug (i := 4) sc_Run_follow_ons.nd rfl (Or.inl rfl) (pv 6) ip_add))))))))))
        (pss_one (ps_ret (pe_tupK (pa_cons (pv 2) (pa_cons (pv 3) (pa_cons (pv 4) pa_nil)))))))))), ?_⟩
    walk_at "wks"
    rename_i l H1 f1 s1 e1
    refine whileN (fun m σ' H' => σ' = [some (.ref x), some (.int c), some (.ref l), some (.int n), some (.non), none, none] ∧ H' = H1) 0 ⟨rfl, rfl⟩ ?_
    rintro m σ' H' ⟨rfl, rfl⟩
    walk_at "wks"
    rename_i p H2 f2 s2 e2
    exact k p l _ (s1.trans s2) (s2 _ _ e1) e2
def spNumAt (K : PySem.W.Frag) : Sp := fun vs H Q _ => ∃ (x : Addr) (cs : List Cu) (n t p b : Int), vs = [.ref x, .int p, .int b] ∧ RunAt K H x cs n t ∧ t * b ≤ p ∧ 1 ≤ b ∧ b ≤ 1000 ∧ ∀ H', Same H H' → Q (.int n) H'
theorem ok_Run_number_at (T : Txt K mg) : ∃ fd, FnOk P w K mg base CX0 4 (He.fAd K ("Run", some "number_at")) fd ["self", "top", "bottom"] (spNumAt K) ∧ FunD K "number_at" "Run.number_at" (defArgs s_Run_number_at) (defBody s_Run_number_at) (defScope s_Run_number_at) [V.int 1] [] (He.fAd K ("Run", some "number_at")) fd := by
  obtain ⟨fd, F⟩ := T.c.def_ 23 (d := d_Run_number_at) rfl
  obtain ⟨fd_Run_follow_ons, G_Run_follow_ons, F_Run_follow_ons⟩ := ok_Run_follow_ons (P := P) (w := w) (base := base) T
  have kp_Run_follow_ons := F_Run_follow_ons.kp
  have b_Run_follow_ons : Binds K fd_Run_follow_ons ["self", "clock"] [] := FunD.bindsN F_Run_follow_ons (fun _ _ _ _ _ _ us hl => match us, hl with | [_, _], _ => rfl)
  obtain ⟨fd_Run_clock_of, G_Run_clock_of, F_Run_clock_of⟩ := ok_Run_clock_of (P := P) (w := w) (base := base) T
  have kp_Run_clock_of := F_Run_clock_of.kp
  have b_Run_clock_of : Binds K fd_Run_clock_of ["self", "top", "bottom"] [] := FunD.bindsN F_Run_clock_of (fun _ _ _ _ _ _ us hl => match us, hl with | [_, _, _], _ => rfl)
  refine ⟨fd, F.ok sc_Run_number_at (by walk_at "g94len") (fun cdv A outer st H vs Q E hr h => ?_), F⟩
  · obtain ⟨x, cs, n, t, p, b, rfl, hr', hp, b0, b1, k⟩ := h
    refine ⟨_, PSs.nox (pss_one (ps_ret (pe_ix ix_tup (pe_meth (pv 0) (cls_Run T) (m_Run_follow_ons T) G_Run_follow_ons (hr.mono (by decide)) b_Run_follow_ons .nil pass0 (pa_cons (pe_op op_fdivW (pe_meth (pv 0) (cls_Run T) (m_Run_clock_of T) G_Run_clock_of (hr.mono (by decide)) b_Run_clock_of .nil pass0 (pa_cons (pv 1) (pa_cons (pv 2) pa_nil))) (pv 2)) pa_nil)) pe_int (fun _ _ => rfl)))), ?_⟩
    obtain ⟨dx, a, d1, d2, s, xs, hx, h2, h3, h4, h5⟩ := hr'.ob
    walk_at "wks"
    refine ⟨x, dx, a, d1, d2, n, t, s, p, b, rfl, hx, hp, b0, b1, fun c => ?_⟩
    walk_at "wks"
    refine ⟨x, dx, a, d1, d2, n, t, s, _, rfl, hx, fun q l H1 s1 e1 e2 => ?_⟩
    walk_at "wks"
    exact k _ s1
def spCome (K : PySem.W.Frag) : Sp := fun vs H Q _ => ∃ (x : Addr) (c m : Int) (wd : Str) (cs : List Cu) (n t : Int), vs = [.ref x, .int c, .int m, .str wd] ∧ RunAt K H x cs n t ∧ 0 ≤ m ∧ ∀ H', But x H H' → RunAt K H' x cs m t → Q .non H'
theorem ok_Run_come (T : Txt K mg) : ∃ fd, FnOk P w K mg base CX0 5 (He.fAd K ("Run", some "come")) fd ["self", "clock", "number", "word"] (spCome K) ∧ FunD K "come" "Run.come" (defArgs s_Run_come) (defBody s_Run_come) (defScope s_Run_come) [] [] (He.fAd K ("Run", some "come")) fd := by
  obtain ⟨fd, F⟩ := T.c.def_ 24 (d := d_Run_come) rfl
  obtain ⟨fd_fades_at, G_fades_at, F_fades_at⟩ := ok_fades_at (P := P) (w := w) (base := base) T
  have kp_fades_at := F_fades_at.kp
  have b_fades_at : Binds K fd_fades_at ["clock", "cues", "number", "word", "aims"] [] := FunD.bindsN F_fades_at (fun _ _ _ _ _ _ us hl => match us, hl with | [_, _, _, _, _], _ => rfl)
  have cl_Cue := cls_Cue T
  have na_Cue_number := na_Cue_number T
  have cl_Run := cls_Run T
  have na_Run_cues := na_Run_cues T
  have na_Run_number := na_Run_number T
  have na_Run_aims := na_Run_aims T
  have na_Run_motions := na_Run_motions T
  refine ⟨fd, F.ok sc_Run_come (by walk_at "g94len") (fun cdv A outer st H vs Q E hr h => ?_), F⟩
  · obtain ⟨x, c, m, wd, cs, n, t, rfl, hr', m0, k⟩ := h
    refine ⟨_, PSs.nox (pss_cons (ps_for PassesOwn.never rfl (pi_list (pe_call G_fades_at (hr.mono (by decide)) rfl (glo_fades_at T) kp_fades_at b_fades_at .nil pass0 (pa_cons (pv 1) (pa_cons (pe_fld (pv 0) rfl) (pa_cons (pv 2) (pa_cons (pv 3) (pa_cons (pe_callTy call_dictDK (by rfl) (free_dict T) (by decide +kernel) (pa_cons (pe_fld (pv 0) rfl) pa_nil)) pa_nil))))))) (pg_name (i := 4) sc_Run_come.nd rfl (Or.inl rfl)) pss_never)
        (pss_one (ps_fldK (pv 0) (pv 2) rfl))), ?_⟩
    obtain ⟨dx, a, d1, d2, s, xs, hx, h2, h3, h4, h5⟩ := hr'.ob
    walk_at "wks"
    rename_i q H1 f1 s1 e1
    refine ⟨c, a, xs, cs, m, wd, q, rfl, s1 _ _ h2, h3.same s1, m0, e1, fun l H2 s2 e2 => ?_⟩
    refine ⟨l, rfl, ⟨_, .of e2⟩, for_list (K := K) (a := l) (xs := []) (fun i σ' H' => σ' = [some (.ref x), some (.int c), some (.int m), some (.str wd), none] ∧ H' = H2) ⟨rfl, rfl⟩ (fun i σ' H' _ ⟨_, e⟩ => by rw [e]; exact .of e2) (fun i y σ' H' hi _ => by cases i <;> cases hi) ?_⟩
    rintro σ' H' ⟨rfl, rfl⟩
    have s3 := s1.trans s2
    have hx2 := s3 _ _ hx
    walk_at "wks"
    rename_i H4 m4 e4
    exact k _ (m4.before s3) (RunAt.put hx2 (s3 _ _ h2) (h3.same s3) (s3 _ _ h4) (s3 _ _ h5) m0 hr'.nf m4 e4)
def spTake (K : PySem.W.Frag) : Sp := fun vs H Q _ => ∃ (x : Addr) (cs : List Cu) (n t p : Int), vs = [.ref x, .int p] ∧ RunAt K H x cs n t ∧ t ≤ p ∧ ∀ H', But x H H' → RunAt K H' x cs n p → Q .non H'
theorem ok_Run_take (T : Txt K mg) : ∃ fd, FnOk P w K mg base CX0 6 (He.fAd K ("Run", some "take")) fd ["self", "tick"] (spTake K) ∧ FunD K "take" "Run.take" (defArgs s_Run_take) (defBody s_Run_take) (defScope s_Run_take) [] [] (He.fAd K ("Run", some "take")) fd := by
  obtain ⟨fd, F⟩ := T.c.def_ 25 (d := d_Run_take) rfl
  obtain ⟨fd_Run_clock_of, G_Run_clock_of, F_Run_clock_of⟩ := ok_Run_clock_of (P := P) (w := w) (base := base) T
  have kp_Run_clock_of := F_Run_clock_of.kp
  have b_Run_clock_of : Binds K fd_Run_clock_of ["self", "top", "bottom"] [] := FunD.bindsN F_Run_clock_of (fun _ _ _ _ _ _ us hl => match us, hl with | [_, _, _], _ => rfl)
  obtain ⟨fd_Run_follow_ons, G_Run_follow_ons, F_Run_follow_ons⟩ := ok_Run_follow_ons (P := P) (w := w) (base := base) T
  have kp_Run_follow_ons := F_Run_follow_ons.kp
  have b_Run_follow_ons : Binds K fd_Run_follow_ons ["self", "clock"] [] := FunD.bindsN F_Run_follow_ons (fun _ _ _ _ _ _ us hl => match us, hl with | [_, _], _ => rfl)
  obtain ⟨fd_Run_come, G_Run_come, F_Run_come⟩ := ok_Run_come (P := P) (w := w) (base := base) T
  have kp_Run_come := F_Run_come.kp
  have b_Run_come : Binds K fd_Run_come ["self", "clock", "number", "word"] [] := FunD.bindsN F_Run_come (fun _ _ _ _ _ _ us hl => match us, hl with | [_, _, _, _], _ => rfl)
  have cl_Run := cls_Run T
  have na_Run_due := na_Run_due T
  have na_Run_tick := na_Run_tick T
  have na_Run_showed := na_Run_showed T
  refine ⟨fd, F.ok sc_Run_take (by walk_at "g94len") (fun cdv A outer st H vs Q E hr h => ?_), F⟩
  · obtain ⟨x, cs, n, t, p, rfl, hr', hp, k⟩ := h
    refine ⟨_, PSs.nox (pss_cons (ps_set (i := 2) sc_Run_take.nd rfl (Or.inl rfl) (pe_meth (pv 0) (cls_Run T) (m_Run_clock_of T) G_Run_clock_of (hr.mono (by decide)) b_Run_clock_of .nil pass0 (pa_cons (pv 1) (pa_cons pe_int pa_nil))))
        (pss_cons (ps_asg (pe_meth (pv 0) (cls_Run T) (m_Run_follow_ons T) G_Run_follow_ons (hr.mono (by decide)) b_Run_follow_ons .nil pass0 (pa_cons (pv 2) pa_nil)) (pg_tup rfl (pgs_cons (pg_name (i := 3) sc_Run_take.nd rfl (Or.inl rfl)) (pgs_cons (pg_name (i := 4) sc_Run_take.nd rfl (Or.inl rfl)) (pgs_cons (pg_name (i := 5) sc_Run_take.nd rfl (Or.inl rfl)) pgs_nil)))))
        (pss_cons (ps_for PassesOwn.never rfl (pi_list (pv 3)) (pg_tup rfl (pgs_cons (pg_name (i := 6) sc_Run_take.nd rfl (Or.inl rfl)) (pgs_cons (pg_name (i := 7) sc_Run_take.nd rfl (Or.inl rfl)) pgs_nil))) pss_never)
        (pss_cons (ps_fldK (pv 0) (pv 5) rfl)
        (pss_cons (ps_fldK (pv 0) (pv 1) rfl)
        (pss_one (ps_fldK (pv 0) (pv 2) rfl))))))), ?_⟩
    obtain ⟨dx, a, d1, d2, s, xs, hx, h2, h3, h4, h5⟩ := hr'.ob
    walk_at "wks"
    refine ⟨x, dx, a, d1, d2, n, t, s, p, 1, rfl, hx, by omega, by decide, by decide, fun c => ?_⟩
    walk_at "wks"
    refine ⟨x, dx, a, d1, d2, n, t, s, c, rfl, hx, fun q l H1 s1 e1 e2 => ?_⟩
    walk_at "wks"
    refine ⟨⟨_, .of e1⟩, for_list (K := K) (a := l) (xs := []) (fun i σ' H' => σ' = [some (.ref x), some (.int p), some (.int c), some (.ref l), some (.int n), some (.non), none, none] ∧ H' = H1) ⟨rfl, rfl⟩ (fun i σ' H' _ ⟨_, e⟩ => by rw [e]; exact .of e1) (fun i y σ' H' hi _ => by cases i <;> cases hi) ?_⟩
    rintro σ' H' ⟨rfl, rfl⟩
    have hx1 := s1 _ _ hx
    walk_at "wks"
    rename_i H2 m2 e3 H3 m3 e4 H4 m4 e5
    exact k _ (((m2.trans m3).trans m4).before s1) (RunAt.put hx1 (s1 _ _ h2) (h3.same s1) (s1 _ _ h4) (s1 _ _ h5) hr'.n0 hr'.nf ((m2.trans m3).trans m4) e5)
def spMarchR (K : PySem.W.Frag) : Sp := fun vs H Q _ => ∃ (x : Addr) (cs : List Cu) (n t p m : Int) (g : Bool), vs = [.ref x, .int p, .int m, .str (if g = true then "go" else "back")] ∧ RunAt K H x cs n t ∧ t ≤ p ∧ 0 ≤ m ∧ (g = true → ∃ u, cueN m cs = some u) ∧ ∀ H', But x H H' → RunAt K H' x cs m p → Q (.int m) H'
theorem cueN_in {n : Int} : ∀ {cs : List Cu} {u : Cu}, cueN n cs = some u → u ∈ cs ∧ u.1 = n
  | [], _, h => nomatch h
  | c :: r, u, h => by
    unfold cueN at h
    by_cases q : c.1 = n
    · rw [if_pos q] at h
      cases h
      exact ⟨List.mem_cons_self, q⟩
    · rw [if_neg q] at h
      exact ⟨List.mem_cons_of_mem _ (cueN_in h).1, (cueN_in h).2⟩
theorem ok_Run_march (T : Txt K mg) : ∃ fd, FnOk P w K mg base CX0 7 (He.fAd K ("Run", some "march")) fd ["self", "tick", "number", "word"] (spMarchR K) ∧ FunD K "march" "Run.march" (defArgs s_Run_march) (defBody s_Run_march) (defScope s_Run_march) [] [] (He.fAd K ("Run", some "march")) fd := by
  obtain ⟨fd, F⟩ := T.c.def_ 26 (d := d_Run_march) rfl
  obtain ⟨fd_Run_take, G_Run_take, F_Run_take⟩ := ok_Run_take (P := P) (w := w) (base := base) T
  have kp_Run_take := F_Run_take.kp
  have b_Run_take : Binds K fd_Run_take ["self", "tick"] [] := FunD.bindsN F_Run_take (fun _ _ _ _ _ _ us hl => match us, hl with | [_, _], _ => rfl)
  obtain ⟨fd_Run_come, G_Run_come, F_Run_come⟩ := ok_Run_come (P := P) (w := w) (base := base) T
  have kp_Run_come := F_Run_come.kp
  have b_Run_come : Binds K fd_Run_come ["self", "clock", "number", "word"] [] := FunD.bindsN F_Run_come (fun _ _ _ _ _ _ us hl => match us, hl with | [_, _, _, _], _ => rfl)
  obtain ⟨fd_Run_number_at, G_Run_number_at, F_Run_number_at⟩ := ok_Run_number_at (P := P) (w := w) (base := base) T
  have kp_Run_number_at := F_Run_number_at.kp
  obtain ⟨d1_Run_number_at, v1_Run_number_at, b1_Run_number_at⟩ : ∃ ds, Vals ([V.int 1].drop 0) ds ∧ Binds K fd_Run_number_at ["self", "top", "bottom"] ds := F_Run_number_at.binds1 2 0 (by decide) rfl (fun _ _ _ _ _ _ _ us its h1 h2 => match us, its, h1, h2 with | [_, _], [_], _, _ => ⟨_, rfl, rfl⟩)
  obtain ⟨fd_cue_at, G_cue_at, F_cue_at⟩ := ok_cue_at (P := P) (w := w) (base := base) T
  have kp_cue_at := F_cue_at.kp
  have b_cue_at : Binds K fd_cue_at ["cues", "number"] [] := FunD.bindsN F_cue_at (fun _ _ _ _ _ _ us hl => match us, hl with | [_, _], _ => rfl)
  have cl_Cue := cls_Cue T
  have na_Cue_follow := na_Cue_follow T
  have cl_Run := cls_Run T
  have na_Run_cues := na_Run_cues T
  have na_Run_due := na_Run_due T
  have na_Run_showed := na_Run_showed T
  have na_Run_going := na_Run_going T
  refine ⟨fd, F.ok sc_Run_march (by walk_at "g94len") (fun cdv A outer st H vs Q E hr h => ?_), F⟩
  · obtain ⟨x, cs, n, t, p, m, g, rfl, hr', hp, m0, hw, k⟩ := h
    refine ⟨_, PSs.nox (pss_cons (ps_expr (pe_meth (pv 0) (cls_Run T) (m_Run_take T) G_Run_take (hr.mono (by decide)) b_Run_take .nil pass0 (pa_cons (pv 1) pa_nil)))
        (pss_cons (ps_fldK (pv 0) pe_bl rfl)
        (pss_cons (ps_fldK (pv 0) pe_non rfl)
        (C8.pss_cut (ps_if (pt_cmpR op_eq (pv 3) pe_str (nomark _)) (pss_cons (ps_set (i := 4) sc_Run_march.nd rfl (Or.inl rfl) (pe_fld (pe_call G_cue_at (hr.mono (by decide)) rfl (glo_cue_at T) kp_cue_at b_cue_at .nil pass0 (pa_cons (pe_fld (pv 0) rfl) (pa_cons (pv 2) pa_nil))) rfl))
        (pss_one (ps_if (pt_cmpR op_notN (pv 4) pe_non (nomark _)) (pss_one (ps_fldK (pv 0) (pe_op op_add (pe_fld (pv 0) rfl) (pv 4)) rfl)) pss_nil))) pss_nil)
        (pss_cons (ps_expr (pe_meth (pv 0) (cls_Run T) (m_Run_come T) G_Run_come (hr.mono (by decide)) b_Run_come .nil pass0 (pa_cons (pe_fld (pv 0) rfl) (pa_cons (pv 2) (pa_cons (pv 3) pa_nil)))))
        (pss_one (ps_ret (pe_meth (pv 0) (cls_Run T) (m_Run_number_at T) G_Run_number_at (hr.mono (by decide)) b1_Run_number_at v1_Run_number_at pass0 (pa_cons (pv 1) pa_nil))))))))), ?_⟩
    obtain ⟨dx0, a0, d10, d20, s0, xs0, hx0, _⟩ := hr'.ob
    walk_at "wks"
    refine ⟨x, cs, n, t, p, rfl, hr', hp, fun H1 m1 r1 => ?_⟩
    obtain ⟨dx, a, d1, d2, s, xs, hx, h2, h3, h4, h5⟩ := r1.ob
    walk_at "wks"
    rename_i H2 m2 e2 H3 m3 e3
    have r3 := RunAt.put hx h2 h3 h4 h5 r1.n0 r1.nf (m2.trans m3) e3
    obtain ⟨dx3, a3, d13, d23, s3, xs3, hx3, h23, h33, h43, h53⟩ := r3.ob
    refine ⟨fun σ' H' => ∃ v : Option V, σ' = [some (.ref x), some (.int p), some (.int m), some (.str (if g = true then "go" else "back")), v] ∧ Same H3 H', ?_, ?_⟩
    · cases g with
      | false =>
        refine ⟨_, rfl, rfl, _, rfl, iteF ?_⟩
        exact ⟨none, rfl, .refl _⟩
      | true =>
        refine ⟨_, rfl, rfl, _, rfl, iteT ?_⟩
        obtain ⟨u, hu⟩ := hw rfl
        have uf := r3.nf u (cueN_in hu).1
        walk_at "wks"
        refine ⟨a3, xs3, cs, m, rfl, h23, h33, m0, fun c hc y H4 s4 hy => ?_, fun q => by rw [hu] at q; cases q⟩
        obtain ⟨dy, ly, py, ey, _⟩ := hy.ob
        rw [hu] at hc
        cases hc
        rw [uf] at ey
        walk_at "wks"
        exact s4
    · rintro σ' H4 ⟨v, rfl, s4⟩
      have r4 := r3.same s4
      have hx4 := s4 _ _ hx3
      walk_at "wks"
      refine ⟨x, s3, m, _, cs, n, p, rfl, r4, m0, fun H5 m5 r5 => ?_⟩
      obtain ⟨dx5, a5, d15, d25, s5, xs5, hx5, _⟩ := r5.ob
      walk_at "wks"
      refine ⟨x, cs, m, p, p, 1, rfl, r5, by omega, by decide, by decide, fun H6 s6 => ?_⟩
      exact k _ ((((m1.trans (m2.trans m3)).same s4).trans m5).same s6) (r5.same s6)
def spGoR (K : PySem.W.Frag) : Sp := fun vs H Q E => ∃ (x : Addr) (cs : List Cu) (n t p : Int), vs = [.ref x, .int p] ∧ RunAt K H x cs n t ∧ t ≤ p ∧
  (aboveN n cs ≠ 0 → ∀ H', But x H H' → RunAt K H' x cs (aboveN n cs) p → Q (.int (aboveN n cs)) H') ∧ (aboveN n cs = 0 → ∀ H', Same H H' → E (.ref (He.ga K "NoCue")) none H')
theorem above_in {n : Int} : ∀ {cs : List Cu}, aboveN n cs ≠ 0 → ∃ c ∈ cs, c.1 = aboveN n cs ∧ n < c.1
  | [], h => absurd rfl h
  | c :: r, h => by
    unfold aboveN at h ⊢
    by_cases q : n < c.1
    · rw [if_pos q]
      exact ⟨c, List.mem_cons_self, rfl, q⟩
    · rw [if_neg q] at h ⊢
      obtain ⟨d, hd, e⟩ := above_in h
      exact ⟨d, List.mem_cons_of_mem _ hd, e⟩
theorem cue_of {n : Int} : ∀ {cs : List Cu}, (∃ c ∈ cs, c.1 = n) → ∃ u, cueN n cs = some u
  | [], ⟨_, h, _⟩ => nomatch h
  | c :: r, ⟨d, h, e⟩ => by
    unfold cueN
    by_cases q : c.1 = n
    · exact ⟨c, if_pos q⟩
    · rw [if_neg q]
      rcases List.mem_cons.mp h with rfl | h
      · exact absurd e q
      · exact cue_of ⟨d, h, e⟩
theorem rising_pos : ∀ {cs : List Cu} {n : Int}, 0 ≤ n → Rising n cs → ∀ c ∈ cs, 0 < c.1
  | [], _, _, _, c, h => nomatch h
  | d :: r, n, h0, h, c, hc => by
    have hd : 0 < d.1 := by have := h.1; omega
    rcases List.mem_cons.mp hc with rfl | hc
    · exact hd
    · exact rising_pos (n := d.1) (by omega) h.2 c hc
theorem below_pos {n : Int} : ∀ {cs : List Cu} {f : Int}, 0 ≤ f → (∀ c ∈ cs, 0 < c.1) → 0 ≤ cs.foldl (fun f c => if c.1 < n then c.1 else f) f
  | [], f, h, _ => h
  | c :: r, f, h, q => by
    rw [List.foldl_cons]
    refine below_pos ?_ fun d hd => q d (List.mem_cons_of_mem _ hd)
    split
    · have := q c List.mem_cons_self
      omega
    · exact h
theorem ok_Run_go (T : Txt K mg) : ∃ fd, FnOk P w K mg base (L2.CX P w) 8 (He.fAd K ("Run", some "go")) fd ["self", "tick"] (spGoR K) ∧ FunD K "go" "Run.go" (defArgs s_Run_go) (defBody s_Run_go) (defScope s_Run_go) [] [] (He.fAd K ("Run", some "go")) fd := by
  obtain ⟨fd, F⟩ := T.c.def_ 27 (d := d_Run_go) rfl
  obtain ⟨fd_above, G_above, F_above⟩ := ok_above (P := P) (w := w) (base := base) T
  have kp_above := F_above.kp
  have b_above : Binds K fd_above ["cues", "number"] [] := FunD.bindsN F_above (fun _ _ _ _ _ _ us hl => match us, hl with | [_, _], _ => rfl)
  obtain ⟨fd_Run_march, G_Run_march, F_Run_march⟩ := ok_Run_march (P := P) (w := w) (base := base) T
  have kp_Run_march := F_Run_march.kp
  have b_Run_march : Binds K fd_Run_march ["self", "tick", "number", "word"] [] := FunD.bindsN F_Run_march (fun _ _ _ _ _ _ us hl => match us, hl with | [_, _, _, _], _ => rfl)
  obtain ⟨fd_Run_number_at, G_Run_number_at, F_Run_number_at⟩ := ok_Run_number_at (P := P) (w := w) (base := base) T
  have kp_Run_number_at := F_Run_number_at.kp
  obtain ⟨d1_Run_number_at, v1_Run_number_at, b1_Run_number_at⟩ : ∃ ds, Vals ([V.int 1].drop 0) ds ∧ Binds K fd_Run_number_at ["self", "top", "bottom"] ds := F_Run_number_at.binds1 2 0 (by decide) rfl (fun _ _ _ _ _ _ _ us its h1 h2 => match us, its, h1, h2 with | [_, _], [_], _, _ => ⟨_, rfl, rfl⟩)
  have cl_Run := cls_Run T
  have na_Run_cues := na_Run_cues T
  refine ⟨fd, F.ok sc_Run_go (by walk_at "g94len") (fun cdv A outer st H vs Q E hr h => ?_), F⟩
  · obtain ⟨x, cs, n, t, p, rfl, hr', hp, k1, k2⟩ := h
    refine ⟨_, (pss_cons (ps_set (i := 2) sc_Run_go.nd rfl (Or.inl rfl) (pe_call G_above (hr.mono (by decide)) rfl (glo_above T) kp_above b_above .nil pass0 (pa_cons (pe_fld (pv 0) rfl) (pa_cons (pe_meth (pv 0) (cls_Run T) (m_Run_number_at T) G_Run_number_at (hr.mono (by decide)) b1_Run_number_at v1_Run_number_at pass0 (pa_cons (pv 1) pa_nil)) pa_nil))))
        (pss_cons (ps_if (pt_cmpR op_eq (pv 2) pe_int (nomark _)) (pss_one (ps_raise rfl (takes_of rfl rfl rfl rfl) (pmk_own PySem.F.excBase_ValueError (exc_NoCue T).1 (glo_NoCue T) (exc_NoCue T).2.1 (raises_own (exc_NoCue T).2.2.1 (exc_NoCue T).2.2.2) rfl))) pss_nil)
        (pss_one (ps_ret (pe_meth (pv 0) (cls_Run T) (m_Run_march T) G_Run_march (hr.mono (by decide)) b_Run_march .nil pass0 (pa_cons (pv 1) (pa_cons (pv 2) (pa_cons pe_str pa_nil)))))))), ?_⟩
    obtain ⟨dx, a, d1, d2, s, xs, hx, h2, h3, h4, h5⟩ := hr'.ob
    walk_at "wks"
    refine ⟨x, cs, n, t, p, 1, rfl, hr', by omega, by decide, by decide, fun H1 s1 => ?_⟩
    walk_at "wks"
    refine ⟨a, xs, cs, n, rfl, s1 _ _ h2, h3.same s1, hr'.n0, fun H2 s2 => ?_⟩
    have s12 := s1.trans s2
    walk_at "wks"
    refine iteV (fun c1 => ?_) (fun c1 => ?_)
    · exact k2 c1 _ s12
    · obtain ⟨c, hc, e, _⟩ := above_in c1
      have pos := rising_pos (Int.le_refl 0) h3.up c hc
      walk_at "wks"
      refine ⟨x, cs, n, t, p, aboveN n cs, true, rfl, hr'.same s12, hp, by omega, fun _ => cue_of ⟨c, hc, e⟩, fun H3 m3 r3 => ?_⟩
      exact k1 c1 _ (m3.before s12) r3
def spBackR (K : PySem.W.Frag) : Sp := fun vs H Q E => ∃ (x : Addr) (cs : List Cu) (n t p : Int), vs = [.ref x, .int p] ∧ RunAt K H x cs n t ∧ t ≤ p ∧
  (n ≠ 0 → ∀ H', But x H H' → RunAt K H' x cs (belowN n cs) p → Q (.int (belowN n cs)) H') ∧ (n = 0 → ∀ H', Same H H' → E (.ref (He.ga K "NoCue")) none H')
theorem ok_Run_back (T : Txt K mg) : ∃ fd, FnOk P w K mg base (L2.CX P w) 8 (He.fAd K ("Run", some "back")) fd ["self", "tick"] (spBackR K) ∧ FunD K "back" "Run.back" (defArgs s_Run_back) (defBody s_Run_back) (defScope s_Run_back) [] [] (He.fAd K ("Run", some "back")) fd := by
  obtain ⟨fd, F⟩ := T.c.def_ 28 (d := d_Run_back) rfl
  obtain ⟨fd_Run_number_at, G_Run_number_at, F_Run_number_at⟩ := ok_Run_number_at (P := P) (w := w) (base := base) T
  have kp_Run_number_at := F_Run_number_at.kp
  obtain ⟨d1_Run_number_at, v1_Run_number_at, b1_Run_number_at⟩ : ∃ ds, Vals ([V.int 1].drop 0) ds ∧ Binds K fd_Run_number_at ["self", "top", "bottom"] ds := F_Run_number_at.binds1 2 0 (by decide) rfl (fun _ _ _ _ _ _ _ us its h1 h2 => match us, its, h1, h2 with | [_, _], [_], _, _ => ⟨_, rfl, rfl⟩)
  obtain ⟨fd_Run_march, G_Run_march, F_Run_march⟩ := ok_Run_march (P := P) (w := w) (base := base) T
  have kp_Run_march := F_Run_march.kp
  have b_Run_march : Binds K fd_Run_march ["self", "tick", "number", "word"] [] := FunD.bindsN F_Run_march (fun _ _ _ _ _ _ us hl => match us, hl with | [_, _, _, _], _ => rfl)
  obtain ⟨fd_below, G_below, F_below⟩ := ok_below (P := P) (w := w) (base := base) T
  have kp_below := F_below.kp
  have b_below : Binds K fd_below ["cues", "number"] [] := FunD.bindsN F_below (fun _ _ _ _ _ _ us hl => match us, hl with | [_, _], _ => rfl)
  have cl_Run := cls_Run T
  have na_Run_cues := na_Run_cues T
  refine ⟨fd, F.ok sc_Run_back (by walk_at "g94len") (fun cdv A outer st H vs Q E hr h => ?_), F⟩
  · obtain ⟨x, cs, n, t, p, rfl, hr', hp, k1, k2⟩ := h
    refine ⟨_, (pss_cons (ps_set (i := 2) sc_Run_back.nd rfl (Or.inl rfl) (pe_meth (pv 0) (cls_Run T) (m_Run_number_at T) G_Run_number_at (hr.mono (by decide)) b1_Run_number_at v1_Run_number_at pass0 (pa_cons (pv 1) pa_nil)))
        (pss_cons (ps_if (pt_cmpR op_eq (pv 2) pe_int (nomark _)) (pss_one (ps_raise rfl (takes_of rfl rfl rfl rfl) (pmk_own PySem.F.excBase_ValueError (exc_NoCue T).1 (glo_NoCue T) (exc_NoCue T).2.1 (raises_own (exc_NoCue T).2.2.1 (exc_NoCue T).2.2.2) rfl))) pss_nil)
        (pss_one (ps_ret (pe_meth (pv 0) (cls_Run T) (m_Run_march T) G_Run_march (hr.mono (by decide)) b_Run_march .nil pass0 (pa_cons (pv 1) (pa_cons (pe_call G_below (hr.mono (by decide)) rfl (glo_below T) kp_below b_below .nil pass0 (pa_cons (pe_fld (pv 0) rfl) (pa_cons (pv 2) pa_nil))) (pa_cons pe_str pa_nil)))))))), ?_⟩
    obtain ⟨dx, a, d1, d2, s, xs, hx, h2, h3, h4, h5⟩ := hr'.ob
    walk_at "wks"
    refine ⟨x, cs, n, t, p, 1, rfl, hr', by omega, by decide, by decide, fun H1 s1 => ?_⟩
    walk_at "wks"
    refine iteV (fun c1 => ?_) (fun c1 => ?_)
    · exact k2 c1 _ s1
    · have hx1 := s1 _ _ hx
      walk_at "wks"
      refine ⟨a, xs, cs, n, rfl, s1 _ _ h2, h3.same s1, hr'.n0, fun H2 s2 => ?_⟩
      have s12 := s1.trans s2
      have pos := below_pos (n := n) (Int.le_refl 0) (rising_pos (Int.le_refl 0) h3.up)
      walk_at "wks"
      refine ⟨x, cs, n, t, p, belowN n cs, false, rfl, hr'.same s12, hp, pos, (fun z => nomatch z), fun H3 m3 r3 => ?_⟩
      exact k1 c1 _ (m3.before s12) r3
def spGotoR (K : PySem.W.Frag) : Sp := fun vs H Q E => ∃ (x : Addr) (cs : List Cu) (n t p m : Int), vs = [.ref x, .int p, .int m] ∧ RunAt K H x cs n t ∧ t ≤ p ∧ 0 ≤ m ∧
  ((cueN m cs).isSome = true → ∀ H', But x H H' → RunAt K H' x cs m p → Q (.int m) H') ∧ ((cueN m cs).isSome = false → ∀ H', Same H H' → E (.ref (He.ga K "NoCue")) none H')
theorem ok_Run_goto (T : Txt K mg) : ∃ fd, FnOk P w K mg base (L2.CX P w) 8 (He.fAd K ("Run", some "goto")) fd ["self", "tick", "number"] (spGotoR K) ∧ FunD K "goto" "Run.goto" (defArgs s_Run_goto) (defBody s_Run_goto) (defScope s_Run_goto) [] [] (He.fAd K ("Run", some "goto")) fd := by
  obtain ⟨fd, F⟩ := T.c.def_ 29 (d := d_Run_goto) rfl
  obtain ⟨fd_Run_clock_of, G_Run_clock_of, F_Run_clock_of⟩ := ok_Run_clock_of (P := P) (w := w) (base := base) T
  have kp_Run_clock_of := F_Run_clock_of.kp
  have b_Run_clock_of : Binds K fd_Run_clock_of ["self", "top", "bottom"] [] := FunD.bindsN F_Run_clock_of (fun _ _ _ _ _ _ us hl => match us, hl with | [_, _, _], _ => rfl)
  obtain ⟨fd_Run_march, G_Run_march, F_Run_march⟩ := ok_Run_march (P := P) (w := w) (base := base) T
  have kp_Run_march := F_Run_march.kp
  have b_Run_march : Binds K fd_Run_march ["self", "tick", "number", "word"] [] := FunD.bindsN F_Run_march (fun _ _ _ _ _ _ us hl => match us, hl with | [_, _, _, _], _ => rfl)
  obtain ⟨fd_cue_at, G_cue_at, F_cue_at⟩ := ok_cue_at (P := P) (w := w) (base := base) T
  have kp_cue_at := F_cue_at.kp
  have b_cue_at : Binds K fd_cue_at ["cues", "number"] [] := FunD.bindsN F_cue_at (fun _ _ _ _ _ _ us hl => match us, hl with | [_, _], _ => rfl)
  have cl_Run := cls_Run T
  have na_Run_cues := na_Run_cues T
  refine ⟨fd, F.ok sc_Run_goto (by walk_at "g94len") (fun cdv A outer st H vs Q E hr h => ?_), F⟩
  · obtain ⟨x, cs, n, t, p, m, rfl, hr', hp, m0, k1, k2⟩ := h
    refine ⟨_, (pss_cons (ps_expr (pe_meth (pv 0) (cls_Run T) (m_Run_clock_of T) G_Run_clock_of (hr.mono (by decide)) b_Run_clock_of .nil pass0 (pa_cons (pv 1) (pa_cons pe_int pa_nil))))
        (pss_cons (ps_if (pt_cmpR op_isN (pe_call G_cue_at (hr.mono (by decide)) rfl (glo_cue_at T) kp_cue_at b_cue_at .nil pass0 (pa_cons (pe_fld (pv 0) rfl) (pa_cons (pv 2) pa_nil))) pe_non (nomark _)) (pss_one (ps_raise rfl (takes_of rfl rfl rfl rfl) (pmk_own PySem.F.excBase_ValueError (exc_NoCue T).1 (glo_NoCue T) (exc_NoCue T).2.1 (raises_own (exc_NoCue T).2.2.1 (exc_NoCue T).2.2.2) rfl))) pss_nil)
        (pss_one (ps_ret (pe_meth (pv 0) (cls_Run T) (m_Run_march T) G_Run_march (hr.mono (by decide)) b_Run_march .nil pass0 (pa_cons (pv 1) (pa_cons (pv 2) (pa_cons pe_str pa_nil)))))))), ?_⟩
    obtain ⟨dx, a, d1, d2, s, xs, hx, h2, h3, h4, h5⟩ := hr'.ob
    walk_at "wks"
    refine ⟨x, dx, a, d1, d2, n, t, s, p, 1, rfl, hx, by omega, by decide, by decide, fun c => ?_⟩
    walk_at "wks"
    refine ⟨a, xs, cs, m, rfl, h2, h3, m0, fun c hc y H1 s1 hy => ?_, fun hc H1 s1 => ?_⟩
    · walk_at "wks"
      refine ⟨x, cs, n, t, p, m, true, rfl, hr'.same s1, hp, m0, fun _ => ⟨c, hc⟩, fun H3 m3 r3 => ?_⟩
      exact k1 (by rw [hc]; rfl) _ (m3.before s1) r3
    · walk_at "wks"
      exact k2 (by rw [hc]; rfl) _ s1
def spChange (K : PySem.W.Frag) : Sp := fun vs H Q _ => ∃ (x b : Addr) (ys : List Addr) (cs ds : List Cu) (n t p : Int), vs = [.ref x, .int p, .ref b] ∧ RunAt K H x cs n t ∧ t ≤ p ∧ H b = some (.lst (ys.map V.ref)) ∧ CuesIn K H ys ds ∧ NoFol ds ∧ ∀ H', But x H H' → RunAt K H' x ds n p → Q (.int n) H'
theorem ok_Run_change (T : Txt K mg) : ∃ fd, FnOk P w K mg base CX0 8 (He.fAd K ("Run", some "change")) fd ["self", "tick", "cues"] (spChange K) ∧ FunD K "change" "Run.change" (defArgs s_Run_change) (defBody s_Run_change) (defScope s_Run_change) [] [] (He.fAd K ("Run", some "change")) fd := by
  obtain ⟨fd, F⟩ := T.c.def_ 30 (d := d_Run_change) rfl
  obtain ⟨fd_Run_clock_of, G_Run_clock_of, F_Run_clock_of⟩ := ok_Run_clock_of (P := P) (w := w) (base := base) T
  have kp_Run_clock_of := F_Run_clock_of.kp
  have b_Run_clock_of : Binds K fd_Run_clock_of ["self", "top", "bottom"] [] := FunD.bindsN F_Run_clock_of (fun _ _ _ _ _ _ us hl => match us, hl with | [_, _, _], _ => rfl)
  obtain ⟨fd_cue_list, G_cue_list, F_cue_list⟩ := ok_cue_list (P := P) (w := w) (base := base) T
  have kp_cue_list := F_cue_list.kp
  have b_cue_list : Binds K fd_cue_list ["cues"] [] := FunD.bindsN F_cue_list (fun _ _ _ _ _ _ us hl => match us, hl with | [_], _ => rfl)
  obtain ⟨fd_Run_take, G_Run_take, F_Run_take⟩ := ok_Run_take (P := P) (w := w) (base := base) T
  have kp_Run_take := F_Run_take.kp
  have b_Run_take : Binds K fd_Run_take ["self", "tick"] [] := FunD.bindsN F_Run_take (fun _ _ _ _ _ _ us hl => match us, hl with | [_, _], _ => rfl)
  obtain ⟨fd_Run_come, G_Run_come, F_Run_come⟩ := ok_Run_come (P := P) (w := w) (base := base) T
  have kp_Run_come := F_Run_come.kp
  have b_Run_come : Binds K fd_Run_come ["self", "clock", "number", "word"] [] := FunD.bindsN F_Run_come (fun _ _ _ _ _ _ us hl => match us, hl with | [_, _, _, _], _ => rfl)
  obtain ⟨fd_Run_number_at, G_Run_number_at, F_Run_number_at⟩ := ok_Run_number_at (P := P) (w := w) (base := base) T
  have kp_Run_number_at := F_Run_number_at.kp
  obtain ⟨d1_Run_number_at, v1_Run_number_at, b1_Run_number_at⟩ : ∃ ds, Vals ([V.int 1].drop 0) ds ∧ Binds K fd_Run_number_at ["self", "top", "bottom"] ds := F_Run_number_at.binds1 2 0 (by decide) rfl (fun _ _ _ _ _ _ _ us its h1 h2 => match us, its, h1, h2 with | [_, _], [_], _, _ => ⟨_, rfl, rfl⟩)
  have cl_Cue := cls_Cue T
  have na_Cue_number := na_Cue_number T
  have cl_Run := cls_Run T
  have na_Run_cues := na_Run_cues T
  have na_Run_number := na_Run_number T
  have na_Run_showed := na_Run_showed T
  refine ⟨fd, F.ok sc_Run_change (by walk_at "g94len") (fun cdv A outer st H vs Q E hr h => ?_), F⟩
  · obtain ⟨x, b, ys, cs, ds, n, t, p, rfl, hr', hp, hb, hd, nd, k⟩ := h
    refine ⟨_, PSs.nox (pss_cons (ps_expr (pe_meth (pv 0) (cls_Run T) (m_Run_clock_of T) G_Run_clock_of (hr.mono (by decide)) b_Run_clock_of .nil pass0 (pa_cons (pv 1) (pa_cons pe_int pa_nil))))
        (pss_cons (ps_set (i := 3) sc_Run_change.nd rfl (Or.inl rfl) (pe_call G_cue_list (hr.mono (by decide)) rfl (glo_cue_list T) kp_cue_list b_cue_list .nil pass0 (pa_cons (pv 2) pa_nil)))
        (pss_cons (ps_expr (pe_meth (pv 0) (cls_Run T) (m_Run_take T) G_Run_take (hr.mono (by decide)) b_Run_take .nil pass0 (pa_cons (pv 1) pa_nil)))
        (pss_cons (ps_fldK (pv 0) (pv 3) rfl)
        (pss_cons (ps_expr (pe_meth (pv 0) (cls_Run T) (m_Run_come T) G_Run_come (hr.mono (by decide)) b_Run_come .nil pass0 (pa_cons (pe_fld (pv 0) rfl) (pa_cons (pe_fld (pv 0) rfl) (pa_cons pe_str pa_nil)))))
        (pss_one (ps_ret (pe_meth (pv 0) (cls_Run T) (m_Run_number_at T) G_Run_number_at (hr.mono (by decide)) b1_Run_number_at v1_Run_number_at pass0 (pa_cons (pv 1) pa_nil))))))))), ?_⟩
    obtain ⟨dx, a, d1, d2, s, xs, hx, h2, h3, h4, h5⟩ := hr'.ob
    walk_at "wks"
    refine ⟨x, dx, a, d1, d2, n, t, s, p, 1, rfl, hx, by omega, by decide, by decide, fun c => ?_⟩
    walk_at "wks"
    rename_i fr H1 f1 s1 e1
    refine ⟨x, cs, n, t, p, rfl, hr'.same s1, hp, fun H2 m2 r2 => ?_⟩
    obtain ⟨dx2, a2, d12, d22, s2, xs2, hx2, h22, h32, h42, h52⟩ := r2.ob
    have e2 := m2.kind (s1 _ _ hx) e1 (by intro z; cases z)
    have hd2 := (hd.same s1).butR m2 (s1 _ _ hx) rfl
    walk_at "wks"
    rename_i H3 m3 e3
    have r3 := RunAt.put hx2 e2 hd2 h42 h52 r2.n0 nd m3 e3
    refine ⟨x, s2, n, "list", ds, n, p, rfl, r3, r3.n0, fun H4 m4 r4 => ?_⟩
    obtain ⟨dx4, a4, d14, d24, s4, xs4, hx4, _⟩ := r4.ob
    walk_at "wks"
    refine ⟨x, ds, n, p, p, 1, rfl, r4, by omega, by decide, by decide, fun H5 s5 => ?_⟩
    exact k _ ((((m2.before s1).trans m3).trans m4).same s5) (r4.same s5)
def spRunI (K : PySem.W.Frag) : Sp := fun vs H Q _ => ∃ (x dx a : Addr) (xs : List Addr) (cs : List Cu), vs = [.ref x, .ref a] ∧ H x = some (.ins (cR K) dx []) ∧ H a = some (.lst (xs.map V.ref)) ∧ CuesIn K H xs cs ∧ NoFol cs ∧ ∀ H', But x H H' → RunAt K H' x cs 0 0 → Q .non H'
theorem PartAt.but0 {K : PySem.W.Frag} {H H' : Hp} {x y C dx : Addr} (h : PartAt K H y) (m : But x H H') (hx : H x = some (.ins C dx [])) : PartAt K H' y := by
  obtain ⟨dy, t, a, r, f, w, h1, h2, h3⟩ := h.ob
  exact ⟨⟨dy, t, a, r, f, w, m.kind hx h1 (ins_ne (by show (5 : Nat) ≠ 0; decide)), m.kind hx h2 (by intro z; cases z), m.kind hx h3 (by intro z; cases z)⟩⟩
theorem CueAt.but0 {K : PySem.W.Frag} {H H' : Hp} {x y C dx : Addr} {c : Cu} (h : CueAt K H y c) (m : But x H H') (hx : H x = some (.ins C dx [])) : CueAt K H' y c := by
  obtain ⟨dy, a, p, h1, h2, h3⟩ := h.ob
  exact ⟨⟨dy, a, p, m.kind hx h1 (ins_ne (by show (4 : Nat) ≠ 0; decide)), m.kind hx h2 (by intro z; cases z), h3.but0 m hx⟩⟩
theorem CuesIn.but0 {K : PySem.W.Frag} {H H' : Hp} {x C dx : Addr} {xs : List Addr} {cs : List Cu} (h : CuesIn K H xs cs) (m : But x H H') (hx : H x = some (.ins C dx [])) : CuesIn K H' xs cs :=
  ⟨Paired.mapP h.at_ fun _ _ c => c.but0 m hx, h.up, h.few⟩
theorem ok_Run_init (T : Txt K mg) : ∃ fd, FnOk P w K mg base CX0 8 (He.fAd K ("Run", some "__init__")) fd ["self", "cues"] (spRunI K) ∧ FunD K "__init__" "Run.__init__" (defArgs s_Run_init) (defBody s_Run_init) (defScope s_Run_init) [] [] (He.fAd K ("Run", some "__init__")) fd := by
  obtain ⟨fd, F⟩ := T.c.def_ 20 (d := d_Run_init) rfl
  obtain ⟨fd_cue_list, G_cue_list, F_cue_list⟩ := ok_cue_list (P := P) (w := w) (base := base) T
  have kp_cue_list := F_cue_list.kp
  have b_cue_list : Binds K fd_cue_list ["cues"] [] := FunD.bindsN F_cue_list (fun _ _ _ _ _ _ us hl => match us, hl with | [_], _ => rfl)
  have cl_Cue := cls_Cue T
  have na_Cue_number := na_Cue_number T
  have cl_Run := cls_Run T
  have na_Run_cues := na_Run_cues T
  have na_Run_number := na_Run_number T
  have na_Run_due := na_Run_due T
  have na_Run_tick := na_Run_tick T
  have na_Run_showed := na_Run_showed T
  have na_Run_going := na_Run_going T
  have na_Run_aims := na_Run_aims T
  have na_Run_motions := na_Run_motions T
  refine ⟨fd, F.ok sc_Run_init (by walk_at "g94len") (fun cdv A outer st H vs Q E hr h => ?_), F⟩
  · obtain ⟨x, dx, a, xs, cs, rfl, hx, ha, hc, nf, k⟩ := h
    refine ⟨_, PSs.nox (pss_cons (ps_fldK (pv 0) (pe_call G_cue_list (hr.mono (by decide)) rfl (glo_cue_list T) kp_cue_list b_cue_list .nil pass0 (pa_cons (pv 1) pa_nil)) rfl)
        (pss_cons (ps_fldK (pv 0) pe_int rfl)
        (pss_cons (ps_fldK (pv 0) pe_non rfl)
        (pss_cons (ps_fldK (pv 0) pe_int rfl)
        (pss_cons (ps_fldK (pv 0) pe_int rfl)
        (pss_cons (ps_fldK (pv 0) pe_bl rfl)
        (pss_cons (ps_fldK (pv 0) pe_dnewKK rfl)
        (pss_one (ps_fldK (pv 0) pe_dnewKK rfl))))))))), ?_⟩
    walk_at "wks"
    rename_i p H1 f1 s1 h1 G1 m1 e1 G2 m2 e2 G3 m3 e3 G4 m4 e4 G5 m5 e5 G6 m6 e6 d1 G7 f7 s7 e7 G8 m8 e8 d2 G9 f9 s9 e9 G10 m10 e10
    have hx1 := s1 _ _ hx
    have M : But x H1 G10 := (((((((((m1.trans m2).trans m3).trans m4).trans m5).trans m6).same s7).trans m8).same s9).trans m10)
    exact k _ (M.before s1) ⟨⟨dx, p, d1, d2, 0, xs, e10, M.kind hx1 h1 (by intro z; cases z), (hc.same s1).but0 M hx1, m10.at (neF2 f7 e6) (s9 _ _ (m8.at (neF2 f7 e6) e7)), m10.at (neF2 f9 e8) e9⟩, by omega, nf⟩
/-! ### the law's small helpers -/
def spCell (K : PySem.W.Frag) : Sp := fun vs H Q _ => ∃ (a : Addr) (k : Int), vs = [.ref a, .int k] ∧ (∃ ns : List Int, SqL K H a (ns.map V.int)) ∧ 0 ≤ k ∧ ∀ r : Int, Q (.int r) H
theorem ok_l_cell_at (T : Txt K mg) : ∃ fd, FnOk P w K mg base CX0 1 (He.fAd K ("_law_cell_at", none)) fd ["_law_script", "_law_k"] (spCell K) ∧ FunD K "_law_cell_at" "_law_cell_at" (defArgs s_l_cell_at) (defBody s_l_cell_at) (defScope s_l_cell_at) [] [] (He.fAd K ("_law_cell_at", none)) fd := by
  obtain ⟨fd, F⟩ := T.c.def_ 31 (d := d_l_cell_at) rfl
  refine ⟨fd, F.ok sc_l_cell_at (by walk_at "g94len") (fun cdv A outer st H vs Q E hr h => ?_), F⟩
  · obtain ⟨a, i, rfl, ⟨ns, hS⟩, i0, k⟩ := h
    refine ⟨_, PSs.nox (pss_cons (ps_if (pt_cmpR op_lt (pv 1) (pe_callB call_len_seq (by rfl) (free_len T) (by decide +kernel) (pa_cons (pv 0) pa_nil)) (nomark _)) (pss_one (ps_ret (pe_ix ix_list (pv 0) (pv 1) (fun _ _ => rfl)))) pss_nil)
        (pss_one (ps_ret pe_int))), ?_⟩
    walk_at "rds"
    refine ⟨_, _, rfl, .inl hS, ?_⟩
    walk_at "rds"
    walk_at "ri" <;> intro c1
    · obtain ⟨v, hv, hv2⟩ := atI_lt i0 c1
      obtain ⟨z, rfl, _, _⟩ := int_at hv2
      walk_at "rds"
      exact ⟨_, _, _, _, rfl, rfl, hS, hv, k _⟩
    · walk_at "rds"
      exact k _

def spWhole : Sp := fun vs H Q _ => ∃ n : Int, vs = [.int n] ∧ Q (.bl true) H
theorem ok_l_whole (T : Txt K mg) : ∃ fd, FnOk P w K mg base CX0 1 (He.fAd K ("_law_whole", none)) fd ["_law_found"] spWhole ∧ FunD K "_law_whole" "_law_whole" (defArgs s_l_whole) (defBody s_l_whole) (defScope s_l_whole) [] [] (He.fAd K ("_law_whole", none)) fd := by
  obtain ⟨fd, F⟩ := T.c.def_ 32 (d := d_l_whole) rfl
  refine ⟨fd, F.ok sc_l_whole (by walk_at "g94len") (fun cdv A outer st H vs Q E hr h => ?_), F⟩
  · obtain ⟨n, rfl, k⟩ := h
    refine ⟨_, PSs.nox (pss_one (ps_ret (pe_and (pe_callB call_isi (by rfl) (free_isinstance T) (by decide +kernel) (pa_cons (pv 0) (pa_cons (pe_bltn (v := .ty "int") (by rfl) (free_int T) (by decide +kernel) rfl) pa_nil))) (pe_one (pe_not (pe_callB call_isi (by rfl) (free_isinstance T) (by decide +kernel) (pa_cons (pv 0) (pa_cons (pe_bltn (v := .ty "bool") (by rfl) (free_bool T) (by decide +kernel) rfl) pa_nil)))))))), ?_⟩
    walk_at "rds"
    exact k

/-! ### the draws -/
def spDraw : Sp := fun vs H Q _ => ∃ c p : Int, vs = [.int c, .int p] ∧ 0 ≤ p ∧ p ≤ 1000 ∧ ∀ r : Int, 0 ≤ r → r < 2147483648 → Q (.int r) H
theorem ok_l_draw (T : Txt K mg) : ∃ fd, FnOk P w K mg base CX0 1 (He.fAd K ("_law_draw", none)) fd ["_law_cell", "_law_place"] spDraw ∧ FunD K "_law_draw" "_law_draw" (defArgs s_l_draw) (defBody s_l_draw) (defScope s_l_draw) [] [] (He.fAd K ("_law_draw", none)) fd := by
  obtain ⟨fd, F⟩ := T.c.def_ 33 (d := d_l_draw) rfl
  refine ⟨fd, F.ok sc_l_draw (by walk_at "g94len") (fun cdv A outer st H vs Q E hr h => ?_), F⟩
  · obtain ⟨c, p, rfl, p0, p1, k⟩ := h
    refine ⟨_, PSs.nox (pss_cons (ps_set (i := 2) sc_l_draw.nd rfl (Or.inl rfl) (pe_op op_shr (pv 0) (pe_op op_add pe_int (pe_op op_mul pe_int (pe_op op_mod (pv 1) pe_int)))))
        (pss_cons (ps_if (PW.pt (pw_and (pt_cmpR op_eq (pe_op op_mod (pv 0) pe_int) pe_int (nomark _)) (pw_and1 (pt_cmpR op_ne (pv 2) pe_int (nomark _))))) (pss_one (ps_ret (pe_op op_mod (pv 2) pe_int))) pss_nil)
        (pss_cons (ps_set (i := 3) sc_l_draw.nd rfl (Or.inl rfl) (pe_op op_mod (pe_op op_mul (pe_op op_add (pe_op op_mod (pe_op op_fdiv (pv 0) pe_int) (pe_powC (v := 1000000000000000000000000000000) (by rfl) (by decide +kernel))) pe_int) (pe_op op_add pe_int (pe_op op_mul (pe_op op_mul pe_int (pv 1)) (pv 1)))) pe_int))
        (pss_one (ps_ret (pe_op op_mod (pe_op op_mul (pv 3) (pv 3)) pe_int)))))), ?_⟩
    have hp2 : 0 ≤ 7919 * p * p ∧ 7919 * p * p ≤ 7919000000 := by
      have h1 : 0 ≤ 7919 * p := by omega
      have h2 := Int.mul_nonneg h1 p0
      have h3 := Int.mul_le_mul (show 7919 * p ≤ 7919000 by omega) p1 p0 (by decide)
      omega
    walk_at "rds"
    walk_at "ri" <;> intro c1
    · walk_at "rds"
      walk_at "ri" <;> intro c2
      · walk_at "rds"
        exact k _ (by omega) (by omega)
      · walk_at "rds"
        exact k _ (by omega) (by omega)
    · walk_at "rds"
      exact k _ (by omega) (by omega)

def spRest : Sp := fun vs H Q _ => ∃ c : Int, vs = [.int c] ∧ ∀ r : Int, Q (.int r) H
theorem ok_l_rest (T : Txt K mg) : ∃ fd, FnOk P w K mg base CX0 2 (He.fAd K ("_law_rest", none)) fd ["_law_cell"] spRest ∧ FunD K "_law_rest" "_law_rest" (defArgs s_l_rest) (defBody s_l_rest) (defScope s_l_rest) [] [] (He.fAd K ("_law_rest", none)) fd := by
  obtain ⟨fd, F⟩ := T.c.def_ 34 (d := d_l_rest) rfl
  obtain ⟨fd_l_draw, G_l_draw, F_l_draw⟩ := ok_l_draw (P := P) (w := w) (base := base) T
  have kp_l_draw := F_l_draw.kp
  have b_l_draw : Binds K fd_l_draw ["_law_cell", "_law_place"] [] := FunD.bindsN F_l_draw (fun _ _ _ _ _ _ us hl => match us, hl with | [_, _], _ => rfl)
  refine ⟨fd, F.ok sc_l_rest (by walk_at "g94len") (fun cdv A outer st H vs Q E hr h => ?_), F⟩
  · obtain ⟨c, rfl, k⟩ := h
    refine ⟨_, PSs.nox (pss_cons (ps_if (PW.pt (pw_and (pt_cmpR op_eq (pe_op op_mod (pv 0) pe_int) pe_int (nomark _)) (pw_and1 (pt_cmpR op_ne (pe_op op_shr (pv 0) pe_int) pe_int (nomark _))))) (pss_one (ps_ret (pe_op op_add (pe_op op_mul (pe_op op_shr (pv 0) pe_int) pe_int) pe_int))) pss_nil)
        (pss_one (ps_ret (pe_op op_mul pe_int (pe_call G_l_draw (hr.mono (by decide)) rfl (glo__law_draw T) kp_l_draw b_l_draw .nil pass0 (pa_cons (pv 0) (pa_cons pe_int pa_nil))))))), ?_⟩
    walk_at "rds"
    walk_at "ri" <;> intro c1
    · walk_at "rds"
      walk_at "ri" <;> intro c2
      · walk_at "rds"
        exact k _
      · walk_at "rds"
        intro r r0 r1
        walk_at "rds"
        exact k _
    · walk_at "rds"
      intro r r0 r1
      walk_at "rds"
      exact k _
def RisingN : Int → List Int → Prop
  | _, [] => True
  | n, c :: r => n < c ∧ RisingN c r
theorem RisingN.snoc : ∀ {n : Int} {ms : List Int} {m : Int}, RisingN n ms → (ms.getLast?.getD n) < m → RisingN n (ms ++ [m])
  | n, [], m, _, h => ⟨h, trivial⟩
  | n, c :: r, m, ⟨h1, h2⟩, h => ⟨h1, RisingN.snoc h2 (by
      rw [List.getLast?_cons] at h
      exact h)⟩
def cuN (ms : List Int) : List Cu := ms.map fun m => (m, none)
theorem cuN_fst : ∀ ms : List Int, (cuN ms).map (·.1) = ms
  | [] => rfl
  | m :: r => by
    show m :: (cuN r).map (·.1) = _
    rw [cuN_fst r]
theorem cuN_up : ∀ {n : Int} {ms : List Int}, RisingN n ms → Rising n (cuN ms)
  | _, [], _ => trivial
  | _, _ :: _, h => ⟨h.1, cuN_up h.2⟩
theorem risingN_pos : ∀ {n : Int} {ms : List Int}, RisingN n ms → ∀ m ∈ ms, n < m
  | n, d :: r, ⟨h1, h2⟩, m, hm => by
    rcases List.mem_cons.mp hm with rfl | hm
    · exact h1
    · have := risingN_pos h2 m hm
      omega
structure NumsIn (ms : List Int) : Prop where
  up : RisingN 0 ms
  few : ms.length ≤ 6
  hi : ∀ m ∈ ms, m ≤ 600000006
def spNumbers : Sp := fun vs H Q _ => ∃ c wd : Int, vs = [.int c, .int wd] ∧ 0 ≤ wd ∧ wd < 2 ∧ ∀ (p : Addr) (ms : List Int) H', Same H H' → Fr H p → H' p = some (.lst (ms.map V.int)) → NumsIn ms → Q (.ref p) H'
theorem ok_l_numbers (T : Txt K mg) : ∃ fd, FnOk P w K mg base CX0 2 (He.fAd K ("_law_numbers", none)) fd ["_law_cell", "_law_wide"] spNumbers ∧ FunD K "_law_numbers" "_law_numbers" (defArgs s_l_numbers) (defBody s_l_numbers) (defScope s_l_numbers) [] [] (He.fAd K ("_law_numbers", none)) fd := by
  obtain ⟨fd, F⟩ := T.c.def_ 35 (d := d_l_numbers) rfl
  obtain ⟨fd_l_draw, G_l_draw, F_l_draw⟩ := ok_l_draw (P := P) (w := w) (base := base) T
  have kp_l_draw := F_l_draw.kp
  have b_l_draw : Binds K fd_l_draw ["_law_cell", "_law_place"] [] := FunD.bindsN F_l_draw (fun _ _ _ _ _ _ us hl => match us, hl with | [_, _], _ => rfl)
  refine ⟨fd, F.ok sc_l_numbers (by walk_at "g94len") (fun cdv A outer st H vs Q E hr h => ?_), F⟩
  · obtain ⟨c, wd, rfl, w0, w1, k⟩ := h
    refine ⟨_, PSs.nox (pss_cons (ps_set (i := 2) sc_l_numbers.nd rfl (Or.inl rfl) (pe_lstK pa_nil))
        (pss_cons (ps_set (i := 3) sc_l_numbers.nd rfl (Or.inl rfl) pe_int)
        (pss_cons (ps_for PassesOwn.never rfl (pi_range1 rfl (free_range T) (pa_cons (pe_op op_mod (pe_call G_l_draw (hr.mono (by decide)) rfl (glo__law_draw T) kp_l_draw b_l_draw .nil pass0 (pa_cons (pv 0) (pa_cons pe_int pa_nil))) pe_int) pa_nil)) (pg_name (i := 4) sc_l_numbers.nd rfl (Or.inl rfl)) (pss_cons (ps_set (i := 3) sc_l_numbers.nd rfl (Or.inl rfl) (pe_op op_add (pe_op op_add (pv 3) pe_int) (pe_op op_mod (pe_call G_l_draw (hr.mono (by decide)) rfl (glo__law_draw T) kp_l_draw b_l_draw .nil pass0 (pa_cons (pv 0) (pa_cons (pe_op op_add pe_int (pv 4)) pa_nil))) (pe_ix ix_list (pe_lstK (pa_cons pe_int (pa_cons (pe_powC (v := 100000000) (by rfl) (by decide +kernel)) pa_nil))) (pv 1) (fun _ _ => rfl)))))
        (pss_one (ps_expr (pe_bm PySem.F.plainAttrs_list PySem.F.slot_list_append PySem.F.type_list_append mt_appendK (pv 2) (pa_cons (pv 3) pa_nil))))))
        (pss_one (ps_ret (pv 2)))))), ?_⟩
    obtain ⟨top, hv, ht⟩ := at2 (a := 3) (b := 100000000) (k := wd) w0 w1
    have ht1 : 0 < top ∧ top ≤ 100000000 := by omega
    walk_at "wks"
    rename_i pA H1 f1 s1 h1
    walk_at "wks"
    intro m m0 m1
    walk_at "wks"
    refine for_range (lo := 0) (n := (m % 7).toNat) (fun i σ' H' => ∃ (v : Option V) (ms : List Int), σ' = [some (.int c), some (.int wd), some (.ref pA), some (.int (ms.getLast?.getD 0)), v] ∧ Same H H' ∧ H' pA = some (.lst (ms.map V.int)) ∧ RisingN 0 ms ∧ ms.length = i ∧ (∀ x ∈ ms, x ≤ 100000001 * i)) ⟨_, [], rfl, s1, h1, trivial, rfl, by simp⟩ ?_ ?_
    · rintro i σ' H2 hi ⟨v, ms, rfl, s2, h2, r2, l2, b2⟩
      walk_at "wks"
      intro r r0 r1
      walk_at "wks"
      rename_i pB H3 f3 s3 h3 H4 m4 h4
      have rt : 0 ≤ r % top ∧ r % top < top := ⟨Int.emod_nonneg _ (by omega), Int.emod_lt_of_pos _ (by omega)⟩
      have lb : 0 ≤ ms.getLast?.getD 0 ∧ ms.getLast?.getD 0 ≤ 100000001 * (i : Int) := by
        cases hl : ms.getLast? with
        | none => exact ⟨Int.le_refl _, by show (0 : Int) ≤ _; omega⟩
        | some z =>
          have hz := List.mem_of_getLast? hl
          exact ⟨Int.le_of_lt (risingN_pos r2 z hz), b2 z hz⟩
      refine ⟨some (.int (0 + (i : Int))), ms ++ [ms.getLast?.getD 0 + 1 + r % top], ?_, (s2.trans s3).but m4 f1, ?_, r2.snoc (by omega), ?_, fun x hx => ?_⟩
      · rw [List.getLast?_concat]
        rfl
      · rw [List.map_append]
        exact h4
      · rw [List.length_append, l2]
        rfl
      · rcases List.mem_append.mp hx with hx | hx
        · have := b2 x hx
          omega
        · cases List.mem_singleton.mp hx
          omega
    · rintro σ' H2 ⟨v, ms, rfl, s2, h2, r2, l2, b2⟩
      walk_at "wks"
      have hm : 0 ≤ m % 7 ∧ m % 7 < 7 := ⟨Int.emod_nonneg _ (by decide), Int.emod_lt_of_pos _ (by decide)⟩
      refine k pA ms _ s2 f1 h2 ⟨r2, by omega, fun x hx => ?_⟩
      have := b2 x hx
      omega
/-- a cue, its list of parts another one than D -/
def CueD (K : PySem.W.Frag) (D : Addr) (H : Hp) (x : Addr) (c : Cu) : Prop := ∃ dx l p, H x = some (.ins (cC K) dx (cfl c.1 l false c.2)) ∧ H l = some (.lst [.ref p]) ∧ l ≠ D ∧ PartAt K H p
theorem CueD.cue {K : PySem.W.Frag} {D : Addr} {H : Hp} {x : Addr} {c : Cu} (h : CueD K D H x c) : CueAt K H x c := by
  obtain ⟨dx, l, p, h1, h2, _, h4⟩ := h
  exact ⟨⟨dx, l, p, h1, h2, h4⟩⟩
theorem CueD.same {K : PySem.W.Frag} {D : Addr} {H H' : Hp} {x : Addr} {c : Cu} (h : CueD K D H x c) (s : Same H H') : CueD K D H' x c := by
  obtain ⟨dx, l, p, h1, h2, h3, h4⟩ := h
  exact ⟨dx, l, p, s _ _ h1, s _ _ h2, h3, h4.same s⟩
theorem PartAt.put {K : PySem.W.Frag} {D : Addr} {H H' : Hp} {x : Addr} {zs : List V} (h : PartAt K H x) (m : But D H H') (e : H D = some (.lst zs)) : PartAt K H' x := by
  obtain ⟨dx, t, a, r, f, w, h1, h2, h3⟩ := h.ob
  exact ⟨⟨dx, t, a, r, f, w, m.kind e h1 (by intro z; cases z), m.kind e h2 (by intro z; cases z), m.kind e h3 (by intro z; cases z)⟩⟩
theorem CueD.put {K : PySem.W.Frag} {D : Addr} {H H' : Hp} {x : Addr} {c : Cu} {zs : List V} (h : CueD K D H x c) (m : But D H H') (e : H D = some (.lst zs)) : CueD K D H' x c := by
  obtain ⟨dx, l, p, h1, h2, h3, h4⟩ := h
  exact ⟨dx, l, p, m.kind e h1 (by intro z; cases z), m _ _ h3 h2, h3, h4.put m e⟩
theorem cuN_nf (ms : List Int) : NoFol (cuN ms) := fun c hc => by
  unfold cuN at hc
  obtain ⟨m, _, rfl⟩ := List.mem_map.mp hc
  rfl
def spCuesL (K : PySem.W.Frag) : Sp := fun vs H Q _ => ∃ (mA : Addr) (ms : List Int), vs = [.ref mA] ∧ H mA = some (.lst (ms.map V.int)) ∧ NumsIn ms ∧ ∀ (p : Addr) (xs : List Addr) H', Same H H' → H' p = some (.lst (xs.map V.ref)) → CuesIn K H' xs (cuN ms) → Q (.ref p) H'
theorem ok_l_cues (T : Txt K mg) : ∃ fd, FnOk P w K mg base CX0 8 (He.fAd K ("_law_cues", none)) fd ["_law_numbers_here"] (spCuesL K) ∧ FunD K "_law_cues" "_law_cues" (defArgs s_l_cues) (defBody s_l_cues) (defScope s_l_cues) [] [] (He.fAd K ("_law_cues", none)) fd := by
  obtain ⟨fd, F⟩ := T.c.def_ 36 (d := d_l_cues) rfl
  obtain ⟨fd_Cue_init, G_Cue_init, F_Cue_init⟩ := ok_Cue_init (P := P) (w := w) (base := base) T
  have kp_Cue_init := F_Cue_init.kp
  obtain ⟨d2_Cue_init, v2_Cue_init, b2_Cue_init⟩ : ∃ ds, Vals ([V.bl false, V.non].drop 0) ds ∧ Binds K fd_Cue_init ["self", "number", "parts", "stops", "follow"] ds := F_Cue_init.binds1 3 0 (by decide) rfl (fun _ _ _ _ _ _ _ us its h1 h2 => match us, its, h1, h2 with | [_, _, _], [_, _], _, _ => ⟨_, rfl, rfl⟩)
  obtain ⟨fd_Part_init, G_Part_init, F_Part_init⟩ := ok_Part_init (P := P) (w := w) (base := base) T
  have kp_Part_init := F_Part_init.kp
  obtain ⟨d3_Part_init, v3_Part_init, b3_Part_init⟩ : ∃ ds, Vals ([V.int 0, V.int 0, V.int 0].drop 0) ds ∧ Binds K fd_Part_init ["self", "tells", "alone", "rise", "fall", "wait"] ds := F_Part_init.binds1 3 0 (by decide) rfl (fun _ _ _ _ _ _ _ us its h1 h2 => match us, its, h1, h2 with | [_, _, _], [_, _, _], _, _ => ⟨_, rfl, rfl⟩)
  refine ⟨fd, F.ok sc_l_cues (by walk_at "g94len") (fun cdv A outer st H vs Q E hr h => ?_), F⟩
  · obtain ⟨mA, ms, rfl, h1, ⟨r1, l1, b1⟩, k⟩ := h
    refine ⟨_, PSs.nox (pss_one (ps_ret (pe_lc (own := [("_law_number", 1)]) (g := upG (gName 1)) rfl sc_l_cues.nd (pi_list (pv 0)) (blkOk_by (own := [("_law_number", 1)]) (N := ["_law_numbers_here", "_law_number"]) (sc := defScope s_l_cues) (by decide +kernel)) (fun _ _ _ _ _ => (PG.up (pg_name (i := 1) sc_l_cues.nd rfl (Or.inl rfl)))) (fun _ _ _ _ _ => (PTs.up pts_nil)) (fun _ _ _ _ _ => (PE.up (pe_makeK (mk_Cue T) G_Cue_init (hr.mono (by decide)) rfl (glo_Cue T) b2_Cue_init v2_Cue_init pass0 (pa_cons (pv 1) (pa_cons (pe_lstK (pa_cons (pe_makeK (mk_Part T) G_Part_init (hr.mono (by decide)) rfl (glo_Part T) b3_Part_init v3_Part_init pass0 (pa_cons pe_dnewKK (pa_cons pe_dnewKK pa_nil))) pa_nil)) pa_nil)))))))), ?_⟩
    walk_at "wks"
    refine ⟨⟨_, .of h1⟩, fun D hD => lcK_list (K := K) (a := mA) (xs := ms.map V.int) hD (fun i H' => ∃ xs : List Addr, H' D = some (.lst (xs.map V.ref)) ∧ Paired (CueD K D H') xs (cuN (ms.take i)) ∧ Same H H') (fun H' f s h => ⟨[], h, .nil, s⟩) (fun i H' _ ⟨_, _, _, q⟩ => .of (q _ _ h1)) ?_ ?_⟩
    · rintro i x H2 hx ⟨xs, h2, c2, s2⟩
      obtain ⟨m, rfl, hm, hil⟩ := int_at hx
      have m0 := risingN_pos r1 m (List.mem_of_getElem? hm)
      have m1 := b1 m (List.mem_of_getElem? hm)
      have lx : xs.length = i := by
        have := Paired.length c2
        unfold cuN at this
        rw [List.length_map, List.length_take] at this
        omega
      refine ⟨rfl, ?_⟩
      walk_at "wks"
      rename_i pt G1 g1 q1 e1 pa G2 g2 q2 e2
      intro px pdx G3 g3 q3 e3
      refine ⟨px, pdx, pt, pa, 0, 0, 0, rfl, e3, (by walk_at "hp"), (by walk_at "hp"), ⟨by decide, by decide⟩, ⟨by decide, by decide⟩, ⟨by decide, by decide⟩, fun G4 m4 hP => ⟨rfl, ?_⟩⟩
      walk_at "wks"
      rename_i pl G5 g5 q5 e5
      intro y dy G6 g6 q6 e6
      refine ⟨y, dy, pl, px, m, none, rfl, e6, q6 _ _ e5, (hP.same q5).same q6, by omega, by omega, trivial, fun l' G7 m7 f7 e7 e8 hP7 => ⟨rfl, ?_⟩⟩
      have S4 : Same H2 G4 := ((q1.trans q2).trans q3).but m4 (g3.back (q1.trans q2))
      have S6 : Same H2 G6 := (S4.trans q5).trans q6
      have S7 : Same H2 G7 := S6.but m7 (g6.back (S4.trans q5))
      have hD7 := S7 _ _ h2
      refine ⟨_, hD7, by walk_at "sd", fun H8 m8 h8 => ⟨xs ++ [y], ?_, ?_, ?_⟩⟩
      · rw [List.map_append]
        exact h8
      · have ec : cuN (ms.take (i + 1)) = cuN (ms.take i) ++ [(m, none)] := by
          unfold cuN
          rw [take_snoc hm, List.map_append]
          rfl
        rw [ec]
        exact Paired.snoc (Paired.mapP c2 fun _ _ c => (c.same S7).put m8 hD7) (CueD.put ⟨dy, l', px, e7, e8, (neF f7 (S6 _ _ h2)).symm, hP7⟩ m8 hD7)
      · exact (s2.trans S7).but m8 hD
    rintro H2 ⟨xs, h2, c2, s2⟩
    have et : ms.take (ms.map V.int).length = ms := by
      rw [List.length_map, List.take_length]
    rw [et] at c2
    exact k D xs _ s2 h2 ⟨Paired.mapP c2 fun _ _ c => c.cue, cuN_up r1, by unfold cuN; rw [List.length_map]; omega⟩
inductive Dd where
  | go | back | goto (k : Int)
def goalN (cs : List Cu) (n : Int) : Dd → Option Int
  | .go => if aboveN n cs = 0 then none else some (aboveN n cs)
  | .back => if n = 0 then none else some (belowN n cs)
  | .goto k => (cueN k cs).map (·.1)
theorem rising_lt : ∀ {n : Int} {cs : List Cu}, Rising n cs → ∀ c ∈ cs, n < c.1
  | n, d :: r, ⟨h1, h2⟩, c, hc => by
    rcases List.mem_cons.mp hc with rfl | hc
    · exact h1
    · have := rising_lt h2 c hc
      omega
theorem above_least {n : Int} : ∀ {k : Int} {cs : List Cu}, 0 ≤ n → Rising k cs → ∀ c ∈ cs, n < c.1 → aboveN n cs ≤ c.1 ∧ aboveN n cs ≠ 0
  | k, d :: r, h0, ⟨h1, h2⟩, c, hc, l => by
    unfold aboveN
    by_cases q : n < d.1
    · rw [if_pos q]
      refine ⟨?_, by omega⟩
      rcases List.mem_cons.mp hc with rfl | hc
      · exact Int.le_refl _
      · have := rising_lt h2 c hc
        omega
    · rw [if_neg q]
      rcases List.mem_cons.mp hc with rfl | hc
      · exact absurd l q
      · exact above_least h0 h2 c hc l
theorem below_most {n : Int} : ∀ {k : Int} {cs : List Cu} {f : Int}, Rising k cs → (cs.foldl (fun f c => if c.1 < n then c.1 else f) f = f ∧ ∀ c ∈ cs, ¬ c.1 < n) ∨
    (∃ c ∈ cs, c.1 = cs.foldl (fun f c => if c.1 < n then c.1 else f) f ∧ c.1 < n ∧ ∀ d ∈ cs, d.1 < n → d.1 ≤ c.1)
  | k, [], f, _ => .inl ⟨rfl, fun c h => nomatch h⟩
  | k, c :: r, f, ⟨h1, h2⟩ => by
    rw [List.foldl_cons]
    rcases below_most (cs := r) (f := if c.1 < n then c.1 else f) h2 with ⟨e, q⟩ | ⟨d, hd, e, l, q⟩
    · by_cases z : c.1 < n
      · rw [if_pos z] at e ⊢
        refine .inr ⟨c, List.mem_cons_self, e.symm, z, fun d hd l => ?_⟩
        rcases List.mem_cons.mp hd with rfl | hd
        · exact Int.le_refl _
        · exact absurd l (q d hd)
      · rw [if_neg z] at e ⊢
        refine .inl ⟨e, fun d hd => ?_⟩
        rcases List.mem_cons.mp hd with rfl | hd
        · exact z
        · exact q d hd
    · refine .inr ⟨d, List.mem_cons_of_mem _ hd, e, l, fun u hu lu => ?_⟩
      rcases List.mem_cons.mp hu with rfl | hu
      · exact Int.le_of_lt (rising_lt h2 d hd)
      · exact q u hu lu
def gtN (n : Int) (ms : List Int) : List Int := ms.filter fun z => decide (n < z)
def ltN (n : Int) (ms : List Int) : List Int := ms.filter fun z => decide (z < n)
theorem filt_snoc {ms : List Int} {i : Nat} {z : Int} (p : Int → Bool) (h : ms[i]? = some z) : (ms.take (i + 1)).filter p = (ms.take i).filter p ++ (if p z = true then [z] else []) := by
  rw [take_snoc h, List.filter_append, List.filter_cons, List.filter_nil]
theorem gt_go {n : Int} {cs : List Cu} (n0 : 0 ≤ n) (hu : Rising 0 cs) : (gtN n (cs.map (·.1)) = [] → goalN cs n .go = none) ∧ ∀ m, m ∈ gtN n (cs.map (·.1)) → (∀ y, y ∈ gtN n (cs.map (·.1)) → m ≤ y) → goalN cs n .go = some m := by
  have hin : ∀ z, z ∈ gtN n (cs.map (·.1)) ↔ (∃ c ∈ cs, c.1 = z) ∧ n < z := fun z => by
    unfold gtN
    rw [List.mem_filter, List.mem_map]
    exact and_congr Iff.rfl decide_eq_true_iff
  constructor
  · intro e
    unfold goalN
    refine if_pos (Decidable.byContradiction fun q => ?_)
    obtain ⟨c, hc, e1, l⟩ := above_in q
    have := (hin c.1).mpr ⟨⟨c, hc, rfl⟩, l⟩
    rw [e] at this
    cases this
  · intro m hm hl
    obtain ⟨⟨c, hc, rfl⟩, l⟩ := (hin m).mp hm
    obtain ⟨h1, h2⟩ := above_least n0 hu c hc l
    obtain ⟨d, hd, e1, l2⟩ := above_in h2
    have h3 : c.1 ≤ d.1 := hl d.1 ((hin d.1).mpr ⟨⟨d, hd, rfl⟩, l2⟩)
    unfold goalN
    rw [if_neg h2]
    have h4 : aboveN n cs = c.1 := by omega
    rw [h4]
theorem lt_back {n : Int} {cs : List Cu} (hu : Rising 0 cs) : (ltN n (cs.map (·.1)) = [] → belowN n cs = 0) ∧ ∀ m, m ∈ ltN n (cs.map (·.1)) → (∀ y, y ∈ ltN n (cs.map (·.1)) → y ≤ m) → belowN n cs = m := by
  have hin : ∀ z, z ∈ ltN n (cs.map (·.1)) ↔ (∃ c ∈ cs, c.1 = z) ∧ z < n := fun z => by
    unfold ltN
    rw [List.mem_filter, List.mem_map]
    exact and_congr Iff.rfl decide_eq_true_iff
  rcases below_most (n := n) (f := 0) hu with ⟨e, q⟩ | ⟨d, hd, e, l, q⟩
  · refine ⟨fun _ => e, fun m hm _ => ?_⟩
    obtain ⟨⟨c, hc, rfl⟩, l⟩ := (hin m).mp hm
    exact absurd l (q c hc)
  · refine ⟨fun z => ?_, fun m hm hl => ?_⟩
    · have := (hin d.1).mpr ⟨⟨d, hd, rfl⟩, l⟩
      rw [z] at this
      cases this
    · obtain ⟨⟨c, hc, rfl⟩, l2⟩ := (hin m).mp hm
      have h3 : d.1 ≤ c.1 := hl d.1 ((hin d.1).mpr ⟨⟨d, hd, rfl⟩, l⟩)
      have h4 := q c hc l2
      have h5 : d.1 = belowN n cs := e
      show belowN n cs = c.1
      omega
theorem flat_ints : ∀ ms : List Int, (ms.map V.int).all flatV = true
  | [] => rfl
  | m :: r => by
    rw [List.map_cons, List.all_cons, flat_ints r]
    rfl
theorem in_cues {j : Int} : ∀ cs : List Cu, inV (V.int j) ((cs.map (·.1)).map V.int) = (cueN j cs).isSome
  | [] => rfl
  | c :: r => by
    have ih := in_cues (j := j) r
    unfold inV at ih ⊢
    have eu : cueN j (c :: r) = if c.1 = j then some c else cueN j r := rfl
    rw [List.map_cons, List.map_cons, List.any_cons, ih, eu]
    have e : eqV (V.int c.1) (V.int j) = decide (c.1 = j) := by
      show (c.1 == j) = _
      exact Bool.eq_iff_iff.mpr (by simp)
    rw [e]
    by_cases q : c.1 = j
    · rw [decide_eq_true q, if_pos q]
      rfl
    · rw [decide_eq_false q, if_neg q]
      rfl
theorem goto_some {j n : Int} {cs : List Cu} (h : (cueN j cs).isSome = true) : goalN cs n (.goto j) = some j := by
  show (cueN j cs).map (fun x : Cu => x.1) = some j
  cases hk : cueN j cs with
  | none =>
    rw [hk] at h
    cases h
  | some u => exact congrArg some (cueN_in hk).2
theorem goto_none {j n : Int} {cs : List Cu} (h : (cueN j cs).isSome = false) : goalN cs n (.goto j) = none := by
  show (cueN j cs).map (fun x : Cu => x.1) = none
  cases hk : cueN j cs with
  | none => rfl
  | some u =>
    rw [hk] at h
    cases h
inductive Dw where
  | go | back | goto
def Dw.i : Dw → Int
  | .go => 0
  | .back => 1
  | .goto => 2
def goalW (cs : List Cu) (n m : Int) : Dw → Option Int
  | .go => if aboveN n cs = 0 then none else some (aboveN n cs)
  | .back => if n = 0 then none else some (belowN n cs)
  | .goto => if (cueN m cs).isSome = true then some m else none
def spGoalW : Sp := fun vs H Q _ => ∃ (mA : Addr) (ms : List Int) (d : Dw) (n m : Int), vs = [.ref mA, .int n, .int d.i, .int m] ∧ H mA = some (.lst (ms.map V.int)) ∧ NumsIn ms ∧ 0 ≤ n ∧ ∀ H', Same H H' → Q (optV (goalW (cuN ms) n m d)) H'
theorem ok_l_goal (T : Txt K mg) : ∃ fd, FnOk P w K mg base CX0 1 (He.fAd K ("_law_goal", none)) fd ["_law_numbers_here", "_law_here", "_law_word", "_law_to"] spGoalW ∧ FunD K "_law_goal" "_law_goal" (defArgs s_l_goal) (defBody s_l_goal) (defScope s_l_goal) [] [] (He.fAd K ("_law_goal", none)) fd := by
  obtain ⟨fd, F⟩ := T.c.def_ 37 (d := d_l_goal) rfl
  refine ⟨fd, F.ok sc_l_goal (by walk_at "g94len") (fun cdv A outer st H vs Q E hr h => ?_), F⟩
  · obtain ⟨mA, ms, d, n, m, rfl, h1, ⟨r1, l1, b1⟩, n0, k⟩ := h
    refine ⟨_, PSs.nox (pss_cons (ps_if (pt_cmpR op_eq (pv 2) pe_int (nomark _)) (pss_one (ps_ret (pe_callBK (cr_minD rfl) (by rfl) (free_min T) (by decide +kernel) (pa_cons (pe_lc (own := [("_law_number", 4)]) (g := upG (gName 4)) rfl sc_l_goal.nd (pi_list (pv 0)) (blkOk_by (own := [("_law_number", 4)]) (N := ["_law_numbers_here", "_law_here", "_law_word", "_law_to", "_law_number"]) (sc := defScope s_l_goal) (by decide +kernel)) (fun _ _ _ _ _ => (PG.up (pg_name (i := 4) sc_l_goal.nd rfl (Or.inl rfl)))) (fun _ _ _ _ _ => (PTs.up (pts_one (pt_cmpR op_gt (pv 4) (pv 1) (nomark _))))) (fun _ _ _ _ _ => (PE.up (pv 4)))) pa_nil) (pk_cons pe_non pk_nil)))) pss_nil)
        (pss_cons (ps_if (PW.pt (pw_and (pt_cmpR op_eq (pv 2) pe_int (nomark _)) (pw_and1 (pt_cmpR op_gt (pv 1) pe_int (nomark _))))) (pss_one (ps_ret (pe_callBK (cr_maxD rfl) (by rfl) (free_max T) (by decide +kernel) (pa_cons (pe_lc (own := [("_law_number", 4)]) (g := upG (gName 4)) rfl sc_l_goal.nd (pi_list (pv 0)) (blkOk_by (own := [("_law_number", 4)]) (N := ["_law_numbers_here", "_law_here", "_law_word", "_law_to", "_law_number"]) (sc := defScope s_l_goal) (by decide +kernel)) (fun _ _ _ _ _ => (PG.up (pg_name (i := 4) sc_l_goal.nd rfl (Or.inl rfl)))) (fun _ _ _ _ _ => (PTs.up (pts_one (pt_cmpR op_lt (pv 4) (pv 1) (nomark _))))) (fun _ _ _ _ _ => (PE.up (pv 4)))) pa_nil) (pk_cons pe_int pk_nil)))) pss_nil)
        (pss_cons (ps_if (PW.pt (pw_and (pt_cmpR op_eq (pv 2) pe_int (nomark _)) (pw_and1 (pt_cmpR op_in_seq (pv 3) (pv 0) (by with_unfolding_all rfl))))) (pss_one (ps_ret (pv 3))) pss_nil)
        (pss_one (ps_ret pe_non))))), ?_⟩
    have up := cuN_up r1
    cases d with
    | go =>
      unfold Dw.i
      walk_at "wks"
      refine ⟨⟨_, .of h1⟩, fun D hD => lcK_list (K := K) (a := mA) (xs := ms.map V.int) hD (fun i H' => H' D = some (.lst ((gtN n (ms.take i)).map V.int)) ∧ Same H H') (fun H' f s h => ⟨h, s⟩) (fun i H' _ q => .of (q.2 _ _ h1)) ?_ ?_⟩
      · rintro i x H2 hx ⟨h2, s2⟩
        obtain ⟨z, rfl, hz, hil⟩ := int_at hx
        have en := filt_snoc (fun z => decide (n < z)) hz
        have lf : (gtN n (ms.take i)).length ≤ i := Nat.le_trans (List.length_filter_le _ _) (by rw [List.length_take]; omega)
        refine ⟨rfl, ?_⟩
        walk_at "wks"
        refine iteD (fun c1 => ?_) (fun c1 => ?_)
        · rw [if_pos (decide_eq_true c1)] at en
          walk_at "wks"
          refine ⟨_, h2, by walk_at "sd", fun H3 m3 h3 => ⟨?_, s2.but m3 hD⟩⟩
          unfold gtN
          rw [en, List.map_append]
          exact h3
        · rw [if_neg (by rw [decide_eq_false c1]; exact Bool.false_ne_true), List.append_nil] at en
          refine ⟨?_, s2⟩
          unfold gtN
          rw [en]
          exact h2
      · rintro H2 ⟨h2, s2⟩
        rw [List.length_map, List.take_length] at h2
        obtain ⟨g0, g1⟩ := gt_go n0 up
        rw [cuN_fst] at g0 g1
        have e0 : goalW (cuN ms) n m .go = goalN (cuN ms) n .go := rfl
        rw [e0] at k
        refine ⟨D, gtN n ms, _, rfl, rfl, .of h2, fun e => ?_, fun m hm hl => ?_⟩
        · rw [g0 e] at k
          exact k _ s2
        · rw [g1 m hm hl] at k
          exact k _ s2
    | back =>
      unfold Dw.i
      walk_at "wks"
      by_cases c0 : n = 0
      · have e0 : goalW (cuN ms) n m .back = none := if_pos c0
        rw [e0] at k
        refine iteDF (by omega) ?_
        walk_at "wks"
        exact k _ (.refl _)
      refine iteDT (by omega) ?_
      walk_at "wks"
      refine ⟨⟨_, .of h1⟩, fun D hD => lcK_list (K := K) (a := mA) (xs := ms.map V.int) hD (fun i H' => H' D = some (.lst ((ltN n (ms.take i)).map V.int)) ∧ Same H H') (fun H' f s h => ⟨h, s⟩) (fun i H' _ q => .of (q.2 _ _ h1)) ?_ ?_⟩
      · rintro i x H2 hx ⟨h2, s2⟩
        obtain ⟨z, rfl, hz, hil⟩ := int_at hx
        have en := filt_snoc (fun z => decide (z < n)) hz
        have lf : (ltN n (ms.take i)).length ≤ i := Nat.le_trans (List.length_filter_le _ _) (by rw [List.length_take]; omega)
        refine ⟨rfl, ?_⟩
        walk_at "wks"
        refine iteD (fun c1 => ?_) (fun c1 => ?_)
        · rw [if_pos (decide_eq_true c1)] at en
          walk_at "wks"
          refine ⟨_, h2, by walk_at "sd", fun H3 m3 h3 => ⟨?_, s2.but m3 hD⟩⟩
          unfold ltN
          rw [en, List.map_append]
          exact h3
        · rw [if_neg (by rw [decide_eq_false c1]; exact Bool.false_ne_true), List.append_nil] at en
          refine ⟨?_, s2⟩
          unfold ltN
          rw [en]
          exact h2
      · rintro H2 ⟨h2, s2⟩
        rw [List.length_map, List.take_length] at h2
        obtain ⟨g0, g1⟩ := lt_back (n := n) up
        rw [cuN_fst] at g0 g1
        have e0 : goalW (cuN ms) n m .back = some (belowN n (cuN ms)) := if_neg c0
        rw [e0] at k
        refine ⟨D, ltN n ms, _, rfl, rfl, .of h2, fun e => ?_, fun m hm hl => ?_⟩
        · rw [g0 e] at k
          exact k _ s2
        · rw [g1 m hm hl] at k
          exact k _ s2
    | goto =>
      unfold Dw.i
      walk_at "wks"
      refine ⟨flat_ints _, _, rfl, ?_⟩
      have ei : inV (V.int m) (ms.map V.int) = (cueN m (cuN ms)).isSome := by
        rw [← in_cues (j := m) (cuN ms), cuN_fst]
      rw [ei]
      refine iteB (fun c1 => ?_) (fun c1 => ?_)
      · have e0 : goalW (cuN ms) n m .goto = some m := if_pos c1
        rw [e0] at k
        walk_at "wks"
        exact k _ (.refl _)
      · have e0 : goalW (cuN ms) n m .goto = none := if_neg fun z => by rw [show (cueN m (cuN ms)).isSome = false from c1] at z; cases z
        rw [e0] at k
        walk_at "wks"
        exact k _ (.refl _)
def spDeedW (K : PySem.W.Frag) : Sp := fun vs H Q _ => ∃ (x : Addr) (cs : List Cu) (d : Dw) (n t p m : Int), vs = [.ref x, .int d.i, .int p, .int m] ∧ RunAt K H x cs n t ∧ t ≤ p ∧ 0 ≤ m ∧
  (∀ g, goalW cs n m d = some g → ∀ H', But x H H' → RunAt K H' x cs g p → Q (.int g) H') ∧ (goalW cs n m d = none → ∀ H', Same H H' → Q .non H')
theorem ok_l_deed (T : Txt K mg) : ∃ fd, FnOk P w K mg base CX0 9 (He.fAd K ("_law_deed", none)) fd ["_law_run", "_law_word", "_law_tick", "_law_to"] (spDeedW K) ∧ FunD K "_law_deed" "_law_deed" (defArgs s_l_deed) (defBody s_l_deed) (defScope s_l_deed) [] [] (He.fAd K ("_law_deed", none)) fd := by
  obtain ⟨fd, F⟩ := T.c.def_ 38 (d := d_l_deed) rfl
  obtain ⟨fd_Run_go, G_Run_go, F_Run_go⟩ := ok_Run_go (P := P) (w := w) (base := base) T
  have kp_Run_go := F_Run_go.kp
  have b_Run_go : Binds K fd_Run_go ["self", "tick"] [] := FunD.bindsN F_Run_go (fun _ _ _ _ _ _ us hl => match us, hl with | [_, _], _ => rfl)
  obtain ⟨fd_Run_back, G_Run_back, F_Run_back⟩ := ok_Run_back (P := P) (w := w) (base := base) T
  have kp_Run_back := F_Run_back.kp
  have b_Run_back : Binds K fd_Run_back ["self", "tick"] [] := FunD.bindsN F_Run_back (fun _ _ _ _ _ _ us hl => match us, hl with | [_, _], _ => rfl)
  obtain ⟨fd_Run_goto, G_Run_goto, F_Run_goto⟩ := ok_Run_goto (P := P) (w := w) (base := base) T
  have kp_Run_goto := F_Run_goto.kp
  have b_Run_goto : Binds K fd_Run_goto ["self", "tick", "number"] [] := FunD.bindsN F_Run_goto (fun _ _ _ _ _ _ us hl => match us, hl with | [_, _, _], _ => rfl)
  refine ⟨fd, F.ok sc_l_deed (by walk_at "g94len") (fun cdv A outer st H vs Q E hr h => ?_), F⟩
  · obtain ⟨x, cs, d, n, t, p, m, rfl, hr', hp, m0, k1, k2⟩ := h
    refine ⟨_, PSs.nox (pss_cons (ps_try_only rfl rfl ⟨rfl, by decide, .inl (glo_NoCue T)⟩ takes0 (fun W pn xe tk _ => (pss_one (ps_if (pt_cmpR op_eq (pv 1) pe_int (nomark _)) (pss_one (ps_set (i := 4) sc_l_deed.nd rfl (Or.inl rfl) (pe_methE (pv 0) (cls_Run T) (m_Run_go T) G_Run_go (hr.mono (by decide)) b_Run_go (fun σ => passAt tk σ) (pa_cons (pv 2) pa_nil)))) (pss_one (ps_if (pt_cmpR op_eq (pv 1) pe_int (nomark _)) (pss_one (ps_set (i := 4) sc_l_deed.nd rfl (Or.inl rfl) (pe_methE (pv 0) (cls_Run T) (m_Run_back T) G_Run_back (hr.mono (by decide)) b_Run_back (fun σ => passAt tk σ) (pa_cons (pv 2) pa_nil)))) (pss_one (ps_set (i := 4) sc_l_deed.nd rfl (Or.inl rfl) (pe_methE (pv 0) (cls_Run T) (m_Run_goto T) G_Run_goto (hr.mono (by decide)) b_Run_goto (fun σ => passAt tk σ) (pa_cons (pv 2) (pa_cons (pv 3) pa_nil)))))))))) (fun a oe cls d pn hz hf => (pss_one (ps_set (i := 4) sc_l_deed.nd rfl (Or.inl rfl) pe_non))))
        (pss_one (ps_ret (pv 4)))), ?_⟩
    obtain ⟨dx, a, d1, d2, s, xs, hx, h2, h3, h4, h5⟩ := hr'.ob
    cases d with
    | go =>
      unfold Dw.i
      walk_at "wks"
      refine ⟨x, cs, n, t, p, rfl, hr', hp, fun c1 H1 m1 r1 => ?_, fun c1 H1 s1 => ⟨true, exm_NoCue_NoCue T, fun _ a ha => ?_, fun q => nomatch q⟩⟩
      · walk_at "wks"
        exact k1 _ (if_neg c1) _ m1 r1
      · walk_at "wks"
        exact k2 (if_pos c1) _ s1
    | back =>
      unfold Dw.i
      walk_at "wks"
      refine ⟨x, cs, n, t, p, rfl, hr', hp, fun c1 H1 m1 r1 => ?_, fun c1 H1 s1 => ⟨true, exm_NoCue_NoCue T, fun _ a ha => ?_, fun q => nomatch q⟩⟩
      · walk_at "wks"
        exact k1 _ (if_neg c1) _ m1 r1
      · walk_at "wks"
        exact k2 (if_pos c1) _ s1
    | goto =>
      unfold Dw.i
      walk_at "wks"
      refine ⟨x, cs, n, t, p, m, rfl, hr', hp, m0, fun c1 H1 m1 r1 => ?_, fun c1 H1 s1 => ⟨true, exm_NoCue_NoCue T, fun _ a ha => ?_, fun q => nomatch q⟩⟩
      · walk_at "wks"
        exact k1 _ (if_pos c1) _ m1 r1
      · walk_at "wks"
        exact k2 (if_neg fun z => by rw [c1] at z; cases z) _ s1
def spStands (K : PySem.W.Frag) : Sp := fun vs H Q _ => ∃ (x : Addr) (cs : List Cu) (n t p : Int), vs = [.ref x, .int p, .int n] ∧ RunAt K H x cs n t ∧ t ≤ p ∧ ∀ H', Same H H' → Q (.bl true) H'
theorem ok_l_stands (T : Txt K mg) : ∃ fd, FnOk P w K mg base CX0 5 (He.fAd K ("_law_stands", none)) fd ["_law_run", "_law_tick", "_law_here"] (spStands K) ∧ FunD K "_law_stands" "_law_stands" (defArgs s_l_stands) (defBody s_l_stands) (defScope s_l_stands) [] [] (He.fAd K ("_law_stands", none)) fd := by
  obtain ⟨fd, F⟩ := T.c.def_ 39 (d := d_l_stands) rfl
  obtain ⟨fd_Run_number_at, G_Run_number_at, F_Run_number_at⟩ := ok_Run_number_at (P := P) (w := w) (base := base) T
  have kp_Run_number_at := F_Run_number_at.kp
  obtain ⟨d0_Run_number_at, v0_Run_number_at, b0_Run_number_at⟩ : ∃ ds, Vals ([V.int 1].drop 1) ds ∧ Binds K fd_Run_number_at ["self", "top", "bottom"] ds := F_Run_number_at.binds1 3 1 (by decide) rfl (fun _ _ _ _ _ _ _ us its h1 h2 => match us, its, h1, h2 with | [_, _, _], [_], _, _ => ⟨_, rfl, rfl⟩)
  obtain ⟨d1_Run_number_at, v1_Run_number_at, b1_Run_number_at⟩ : ∃ ds, Vals ([V.int 1].drop 0) ds ∧ Binds K fd_Run_number_at ["self", "top", "bottom"] ds := F_Run_number_at.binds1 2 0 (by decide) rfl (fun _ _ _ _ _ _ _ us its h1 h2 => match us, its, h1, h2 with | [_, _], [_], _, _ => ⟨_, rfl, rfl⟩)
  obtain ⟨fd_l_whole, G_l_whole, F_l_whole⟩ := ok_l_whole (P := P) (w := w) (base := base) T
  have kp_l_whole := F_l_whole.kp
  have b_l_whole : Binds K fd_l_whole ["_law_found"] [] := FunD.bindsN F_l_whole (fun _ _ _ _ _ _ us hl => match us, hl with | [_], _ => rfl)
  refine ⟨fd, F.ok sc_l_stands (by walk_at "g94len") (fun cdv A outer st H vs Q E hr h => ?_), F⟩
  · obtain ⟨x, cs, n, t, p, rfl, hr', hp, k⟩ := h
    refine ⟨_, PSs.nox (pss_cons (ps_for PassesOwn.never rfl (pi_list (pe_lstK (pa_cons (pe_meth (pv 0) (cls_Run T) (m_Run_number_at T) G_Run_number_at (hr.mono (by decide)) b1_Run_number_at v1_Run_number_at pass0 (pa_cons (pv 1) pa_nil)) (pa_cons (pe_meth (pv 0) (cls_Run T) (m_Run_number_at T) G_Run_number_at (hr.mono (by decide)) b0_Run_number_at v0_Run_number_at pass0 (pa_cons (pe_op op_add (pe_op op_mul pe_int (pv 1)) pe_int) (pa_cons pe_int pa_nil))) pa_nil)))) (pg_name (i := 3) sc_l_stands.nd rfl (Or.inl rfl)) (pss_one (ps_if (PW.pt (pw_or (pt_not (pt_val (pe_call G_l_whole (hr.mono (by decide)) rfl (glo__law_whole T) kp_l_whole b_l_whole .nil pass0 (pa_cons (pv 3) pa_nil)))) (pw_or1 (pt_cmpR op_ne (pv 3) (pv 2) (nomark _))))) (pss_one (ps_ret pe_bl)) pss_nil)))
        (pss_one (ps_ret pe_bl))), ?_⟩
    obtain ⟨dx, a, d1, d2, s, xs, hx, h2, h3, h4, h5⟩ := hr'.ob
    walk_at "wks"
    refine ⟨x, cs, n, t, p, 1, rfl, hr', by omega, by decide, by decide, fun H1 s1 => ?_⟩
    have hx1 := s1 _ _ hx
    walk_at "wks"
    refine ⟨x, cs, n, t, 2 * p + 1, 2, rfl, hr'.same s1, by omega, by decide, by decide, fun H2 s2 => ?_⟩
    walk_at "wks"
    rename_i l H3 f3 s3 h3
    refine ⟨⟨_, .of h3⟩, for_list (K := K) (a := l) (xs := [.int n, .int n]) (fun i σ' H' => ∃ v : Option V, σ' = [some (.ref x), some (.int p), some (.int n), v] ∧ H' = H3) ⟨_, rfl, rfl⟩ (fun i σ' H' _ ⟨_, _, e⟩ => by rw [e]; exact .of h3) ?_ ?_⟩
    · rintro i y σ' H' hi ⟨v, rfl, rfl⟩
      obtain rfl : y = .int n := by
        match i, hi with
        | 0, hi => exact (Option.some.inj hi).symm
        | 1, hi => exact (Option.some.inj hi).symm
      walk_at "wks"
      refine iteNVF rfl ?_
      exact ⟨_, rfl, rfl⟩
    · rintro σ' H' ⟨v, rfl, rfl⟩
      walk_at "wks"
      exact k _ (by walk_at "sm")
def spLaw (K : PySem.W.Frag) : Sp := fun vs H Q _ => ∃ (a : Addr) (ns : List Int), vs = [.ref a] ∧ SqL K H a (ns.map V.int) ∧ ns.length ≤ 63 ∧ (∀ z ∈ ns, Builtin.Int.intBits z ≤ 1048576) ∧ Only H ∧ ∀ H', Q (.bl true) H'

theorem ok_law (T : Txt K mg) : ∃ fd, FnOk P w K mg base CX0 10 (He.fAd K ("law", none)) fd ["_law_script"] (spLaw K) ∧ FunD K "law" "law" (defArgs s_law) (defBody s_law) (defScope s_law) [] [] (He.fAd K ("law", none)) fd := by
  obtain ⟨fd, F⟩ := T.c.def_ 40 (d := d_law) rfl
  obtain ⟨fd_l_numbers, G_l_numbers, F_l_numbers⟩ := ok_l_numbers (P := P) (w := w) (base := base) T
  have kp_l_numbers := F_l_numbers.kp
  have b_l_numbers : Binds K fd_l_numbers ["_law_cell", "_law_wide"] [] := FunD.bindsN F_l_numbers (fun _ _ _ _ _ _ us hl => match us, hl with | [_, _], _ => rfl)
  obtain ⟨fd_Run_init, G_Run_init, F_Run_init⟩ := ok_Run_init (P := P) (w := w) (base := base) T
  have kp_Run_init := F_Run_init.kp
  have b_Run_init : Binds K fd_Run_init ["self", "cues"] [] := FunD.bindsN F_Run_init (fun _ _ _ _ _ _ us hl => match us, hl with | [_, _], _ => rfl)
  obtain ⟨fd_l_cell_at, G_l_cell_at, F_l_cell_at⟩ := ok_l_cell_at (P := P) (w := w) (base := base) T
  have kp_l_cell_at := F_l_cell_at.kp
  have b_l_cell_at : Binds K fd_l_cell_at ["_law_script", "_law_k"] [] := FunD.bindsN F_l_cell_at (fun _ _ _ _ _ _ us hl => match us, hl with | [_, _], _ => rfl)
  obtain ⟨fd_l_cues, G_l_cues, F_l_cues⟩ := ok_l_cues (P := P) (w := w) (base := base) T
  have kp_l_cues := F_l_cues.kp
  have b_l_cues : Binds K fd_l_cues ["_law_numbers_here"] [] := FunD.bindsN F_l_cues (fun _ _ _ _ _ _ us hl => match us, hl with | [_], _ => rfl)
  obtain ⟨fd_l_draw, G_l_draw, F_l_draw⟩ := ok_l_draw (P := P) (w := w) (base := base) T
  have kp_l_draw := F_l_draw.kp
  have b_l_draw : Binds K fd_l_draw ["_law_cell", "_law_place"] [] := FunD.bindsN F_l_draw (fun _ _ _ _ _ _ us hl => match us, hl with | [_, _], _ => rfl)
  obtain ⟨fd_l_goal, G_l_goal, F_l_goal⟩ := ok_l_goal (P := P) (w := w) (base := base) T
  have kp_l_goal := F_l_goal.kp
  have b_l_goal : Binds K fd_l_goal ["_law_numbers_here", "_law_here", "_law_word", "_law_to"] [] := FunD.bindsN F_l_goal (fun _ _ _ _ _ _ us hl => match us, hl with | [_, _, _, _], _ => rfl)
  obtain ⟨fd_l_deed, G_l_deed, F_l_deed⟩ := ok_l_deed (P := P) (w := w) (base := base) T
  have kp_l_deed := F_l_deed.kp
  have b_l_deed : Binds K fd_l_deed ["_law_run", "_law_word", "_law_tick", "_law_to"] [] := FunD.bindsN F_l_deed (fun _ _ _ _ _ _ us hl => match us, hl with | [_, _, _, _], _ => rfl)
  obtain ⟨fd_l_stands, G_l_stands, F_l_stands⟩ := ok_l_stands (P := P) (w := w) (base := base) T
  have kp_l_stands := F_l_stands.kp
  have b_l_stands : Binds K fd_l_stands ["_law_run", "_law_tick", "_law_here"] [] := FunD.bindsN F_l_stands (fun _ _ _ _ _ _ us hl => match us, hl with | [_, _, _], _ => rfl)
  obtain ⟨fd_l_rest, G_l_rest, F_l_rest⟩ := ok_l_rest (P := P) (w := w) (base := base) T
  have kp_l_rest := F_l_rest.kp
  have b_l_rest : Binds K fd_l_rest ["_law_cell"] [] := FunD.bindsN F_l_rest (fun _ _ _ _ _ _ us hl => match us, hl with | [_], _ => rfl)
  obtain ⟨fd_Run_change, G_Run_change, F_Run_change⟩ := ok_Run_change (P := P) (w := w) (base := base) T
  have kp_Run_change := F_Run_change.kp
  have b_Run_change : Binds K fd_Run_change ["self", "tick", "cues"] [] := FunD.bindsN F_Run_change (fun _ _ _ _ _ _ us hl => match us, hl with | [_, _, _], _ => rfl)
  obtain ⟨fd_l_whole, G_l_whole, F_l_whole⟩ := ok_l_whole (P := P) (w := w) (base := base) T
  have kp_l_whole := F_l_whole.kp
  have b_l_whole : Binds K fd_l_whole ["_law_found"] [] := FunD.bindsN F_l_whole (fun _ _ _ _ _ _ us hl => match us, hl with | [_], _ => rfl)
  refine ⟨fd, F.ok sc_law (by walk_at "g94len") (fun cdv A outer st H vs Q E hr h => ?_), F⟩
  · obtain ⟨a, ns, rfl, hS, hlen, hbits, hO, k⟩ := h
    refine ⟨_, PSs.nox (pss_cons (ps_set (i := 0) sc_law.nd rfl (Or.inr rfl) (pe_lc (own := [("_law_cell", 14)]) (g := upG (gName 14)) rfl sc_law.nd (pi_list (pv 0)) (blkOk_by (own := [("_law_cell", 14)]) (N := ["_law_script", "_law_wide", "_law_numbers_here", "_law_run", "_law_here", "_law_tick", "_law_deeds", "_law_k", "_law_draw_here", "_law_word", "_law_some", "_law_to", "_law_due", "_law_found", "_law_cell"]) (sc := defScope s_law) (by decide +kernel)) (fun _ _ _ _ _ => (PG.up (pg_name (i := 14) sc_law.nd rfl (Or.inl rfl)))) (fun _ _ _ _ _ => (PTs.up pts_nil)) (fun _ _ _ _ _ => (PE.up (pe_op op_add (pe_op op_mul pe_int (pv 14)) (pe_op op_mod (pe_callB (show CallR _ (.builtin "sum") (rSum K) from cr_sum rfl) (by rfl) (free_sum T) (by decide +kernel) (pa_cons (pe_slice (show SlR _ (rSlLK K) from sl_listK) (pv 0) po_none (po_some pe_int)) pa_nil)) pe_int))))))
        (pss_cons (ps_set (i := 1) sc_law.nd rfl (Or.inl rfl) (pe_op op_mod (pe_op op_fdiv (pe_call G_l_cell_at (hr.mono (by decide)) rfl (glo__law_cell_at T) kp_l_cell_at b_l_cell_at .nil pass0 (pa_cons (pv 0) (pa_cons pe_int pa_nil))) pe_int) pe_int))
        (pss_cons (ps_set (i := 2) sc_law.nd rfl (Or.inl rfl) (pe_call G_l_numbers (hr.mono (by decide)) rfl (glo__law_numbers T) kp_l_numbers b_l_numbers .nil pass0 (pa_cons (pe_call G_l_cell_at (hr.mono (by decide)) rfl (glo__law_cell_at T) kp_l_cell_at b_l_cell_at .nil pass0 (pa_cons (pv 0) (pa_cons pe_int pa_nil))) (pa_cons (pv 1) pa_nil))))
        (pss_cons (ps_set (i := 3) sc_law.nd rfl (Or.inl rfl) (pe_makeK (mk_Run T) G_Run_init (hr.mono (by decide)) rfl (glo_Run T) b_Run_init .nil pass0 (pa_cons (pe_call G_l_cues (hr.mono (by decide)) rfl (glo__law_cues T) kp_l_cues b_l_cues .nil pass0 (pa_cons (pv 2) pa_nil)) pa_nil)))
        (pss_cons (ps_set (i := 4) sc_law.nd rfl (Or.inl rfl) pe_int)
        (pss_cons (ps_set (i := 5) sc_law.nd rfl (Or.inl rfl) pe_int)
        (pss_cons (ps_set (i := 6) sc_law.nd rfl (Or.inl rfl) (pe_slice sl_listK (pv 0) (po_some pe_int) (po_some pe_int)))
        (pss_cons (ps_for PassesOwn.never rfl (pi_range1 rfl (free_range T) (pa_cons (pe_callB call_len_seq (by rfl) (free_len T) (by decide +kernel) (pa_cons (pv 6) pa_nil)) pa_nil)) (pg_name (i := 7) sc_law.nd rfl (Or.inl rfl)) (pss_cons (ps_set (i := 8) sc_law.nd rfl (Or.inl rfl) (pe_call G_l_draw (hr.mono (by decide)) rfl (glo__law_draw T) kp_l_draw b_l_draw .nil pass0 (pa_cons (pe_ix ix_list (pv 6) (pv 7) (fun _ _ => rfl)) (pa_cons (pe_op op_add pe_int (pv 7)) pa_nil))))
        (pss_cons (ps_set (i := 5) sc_law.nd rfl (Or.inl rfl) (pe_op op_add (pv 5) (pe_op op_mod (pe_call G_l_draw (hr.mono (by decide)) rfl (glo__law_draw T) kp_l_draw b_l_draw .nil pass0 (pa_cons (pe_ix ix_list (pv 6) (pv 7) (fun _ _ => rfl)) (pa_cons (pe_op op_add pe_int (pv 7)) pa_nil))) (pe_ix ix_list (pe_lstK (pa_cons pe_int (pa_cons (pe_powC (v := 1000000000) (by rfl) (by decide +kernel)) pa_nil))) (pv 1) (fun _ _ => rfl)))))
        (pss_cons (ps_set (i := 9) sc_law.nd rfl (Or.inl rfl) (pe_ix ix_list (pe_lstK (pa_cons pe_int (pa_cons pe_int (pa_cons pe_int (pa_cons pe_int (pa_cons pe_int (pa_cons pe_int (pa_cons pe_int (pa_cons pe_int pa_nil))))))))) (pe_op op_mod (pv 8) pe_int) (fun _ _ => rfl)))
        (C8.pss_cut (ps_if (pt_cmpR op_eq (pv 9) pe_int (nomark _)) (pss_cons (ps_set (i := 2) sc_law.nd rfl (Or.inl rfl) (pe_call G_l_numbers (hr.mono (by decide)) rfl (glo__law_numbers T) kp_l_numbers b_l_numbers .nil pass0 (pa_cons (pe_call G_l_rest (hr.mono (by decide)) rfl (glo__law_rest T) kp_l_rest b_l_rest .nil pass0 (pa_cons (pe_ix ix_list (pv 6) (pv 7) (fun _ _ => rfl)) pa_nil)) (pa_cons (pv 1) pa_nil))))
        (pss_one (ps_if (pt_cmpR op_ne (pe_meth (pv 3) (cls_Run T) (m_Run_change T) G_Run_change (hr.mono (by decide)) b_Run_change .nil pass0 (pa_cons (pv 5) (pa_cons (pe_call G_l_cues (hr.mono (by decide)) rfl (glo__law_cues T) kp_l_cues b_l_cues .nil pass0 (pa_cons (pv 2) pa_nil)) pa_nil))) (pv 4) (nomark _)) (pss_one (ps_ret pe_bl)) pss_nil))) (pss_cons (ps_set (i := 10) sc_law.nd rfl (Or.inl rfl) (pe_op op_catK (pv 2) (pe_lstK (pa_cons (pv 4) (pa_cons (pe_op op_add (pv 4) pe_int) (pa_cons pe_int pa_nil))))))
        (pss_cons (ps_set (i := 11) sc_law.nd rfl (Or.inl rfl) (pe_ix ix_list (pv 10) (pe_op op_mod (pe_call G_l_draw (hr.mono (by decide)) rfl (glo__law_draw T) kp_l_draw b_l_draw .nil pass0 (pa_cons (pe_ix ix_list (pv 6) (pv 7) (fun _ _ => rfl)) (pa_cons (pe_op op_add pe_int (pv 7)) pa_nil))) (pe_callB call_len_seq (by rfl) (free_len T) (by decide +kernel) (pa_cons (pv 10) pa_nil))) (fun _ _ => rfl)))
        (pss_cons (ps_set (i := 12) sc_law.nd rfl (Or.inl rfl) (pe_call G_l_goal (hr.mono (by decide)) rfl (glo__law_goal T) kp_l_goal b_l_goal .nil pass0 (pa_cons (pv 2) (pa_cons (pv 4) (pa_cons (pv 9) (pa_cons (pv 11) pa_nil))))))
        (pss_cons (ps_set (i := 13) sc_law.nd rfl (Or.inl rfl) (pe_call G_l_deed (hr.mono (by decide)) rfl (glo__law_deed T) kp_l_deed b_l_deed .nil pass0 (pa_cons (pv 3) (pa_cons (pv 9) (pa_cons (pv 5) (pa_cons (pv 11) pa_nil))))))
        (pss_cons (ps_if (PW.pt (pw_or (PW.pt (pw_and (pt_cmpR op_isN (pv 12) pe_non (nomark _)) (pw_and1 (pt_cmpR op_notN (pv 13) pe_non (nomark _))))) (pw_or1 (PW.pt (pw_and (pt_cmpR op_notN (pv 12) pe_non (nomark _)) (pw_and1 (PW.pt (pw_or (pt_not (pt_val (pe_call G_l_whole (hr.mono (by decide)) rfl (glo__law_whole T) kp_l_whole b_l_whole .nil pass0 (pa_cons (pv 13) pa_nil)))) (pw_or1 (pt_cmpR op_ne (pv 13) (pv 12) (nomark _))))))))))) (pss_one (ps_ret pe_bl)) pss_nil)
        (pss_one (ps_if (pt_cmpR op_notN (pv 12) pe_non (nomark _)) (pss_one (ps_set (i := 4) sc_law.nd rfl (Or.inl rfl) (pv 12))) pss_nil))))))))
        (pss_one (ps_if (pt_not (pt_val (pe_call G_l_stands (hr.mono (by decide)) rfl (glo__law_stands T) kp_l_stands b_l_stands .nil pass0 (pa_cons (pv 3) (pa_cons (pv 5) (pa_cons (pv 4) pa_nil)))))) (pss_one (ps_ret pe_bl)) pss_nil)))))))
        (pss_one (ps_ret pe_bl)))))))))), ?_⟩
    clear hbits hO
    walk_at "wks"
    refine fun D hD => lcK_list (K := K) (a := a) (xs := ns.map V.int) hD (fun i H' => ∃ zs : List Int, H' D = some (.lst (zs.map V.int)) ∧ zs.length = i ∧ Same H H') (fun H' f s h => ⟨[], h, rfl, s⟩) (fun i H' _ ⟨_, _, _, q⟩ => q.seq hS) ?_ ?_
    · rintro i x H2 hx ⟨zs, h2, l2, s2⟩
      obtain ⟨z, rfl, hz, hil⟩ := int_at hx
      have hS2 := s2.seq hS
      refine ⟨rfl, ?_⟩
      walk_at "wks"
      rename_i q H3 f3 s3 h3
      obtain ⟨ys, hy, _, _⟩ := cut_ints ns none (some 1)
      rw [hy] at h3
      refine ⟨q, ys, rfl, .of h3, ?_⟩
      walk_at "wks"
      refine ⟨_, s3 _ _ h2, L2.szlt (by rw [List.length_map]; omega), fun H4 m4 h4 => ⟨zs ++ [2 * z + ys.sum % 2], by rw [List.map_append]; exact h4, by rw [List.length_append, l2]; rfl, (s2.trans s3).but m4 hD⟩⟩
    rintro H2 ⟨zs, h2, l2, s2⟩
    rw [List.length_map] at l2
    walk_at "wks"
    refine ⟨⟨zs, .of h2⟩, by decide, fun c0 => ?_⟩
    walk_at "wks"
    refine ⟨⟨zs, .of h2⟩, by decide, fun c1 => ?_⟩
    have w0 : 0 ≤ c0 / 4 % 2 ∧ c0 / 4 % 2 < 2 := by omega
    walk_at "wks"
    intro pA ms H3 s3 f3 h3 nm
    walk_at "wks"
    intro pc xs H4 s4 h4 c4
    walk_at "wks"
    intro x dx H5 f5 s5 e5
    refine ⟨x, dx, pc, xs, cuN ms, rfl, e5, s5 _ _ h4, c4.same s5, cuN_nf ms, fun H6 m6 r6 => ⟨rfl, ?_⟩⟩
    have S26 : Same H2 H6 := ((s3.trans s4).trans s5).but m6 (f5.back (s3.trans s4))
    have e6 := S26 _ _ h2
    have p6 : H6 pA = some (.lst (ms.map V.int)) := (s4.trans s5).but m6 (f5.back s4) _ _ h3
    clear S26 e5 m6 c4 h4 s5 s4 s3 h3 s2 h2
    walk_at "wk"
    walk_at "wk"
    walk_at "wk"
    walk_at "wk"
    walk_at "wk"
    rename_i dA H7 f7 s7 h7
    obtain ⟨ds, hds, lds, _⟩ := cut_ints zs (some 2) (some 62)
    rw [hds] at h7
    have r7 := r6.same s7
    have p7 := s7 _ _ p6
    clear e6 r6 p6 f7 s7 hds
    walk_at "wk"
    walk_at "wk"
    walk_at "wk"
    rw [List.length_map]
    refine ⟨by omega, by omega, for_range (lo := 0) (n := ds.length) (fun i σ' H' => ∃ (pN : Addr) (ms : List Int) (n t tk : Int) (v7 v8 v9 v10 v11 v12 v13 : Option V), σ' = [some (.ref D), some (.int (c0 / 4 % 2)), some (.ref pN), some (.ref x), some (.int n), some (.int tk), some (.ref dA), v7, v8, v9, v10, v11, v12, v13, none] ∧
      H' pN = some (.lst (ms.map V.int)) ∧ NumsIn ms ∧ RunAt K H' x (cuN ms) n t ∧ t ≤ tk ∧ H' dA = some (.lst (ds.map V.int))) ⟨pA, ms, 0, 0, 0, _, _, _, _, _, _, _, rfl, p7, nm, r7, Int.le_refl _, h7⟩ ?_ ?_⟩
    · clear p7 nm r7 h7
      rintro i σ' H8 hi ⟨pN, ms, n, t, tk, v7, v8, v9, v10, v11, v12, v13, rfl, h8, nm8, r8, tt, d8⟩
      obtain ⟨z, hz⟩ : ∃ z, ds[i]? = some z := ⟨_, List.getElem?_eq_getElem hi⟩
      have hz2 : atI (ds.map V.int) (0 + (i : Int)) = some (.int z) := by
        rw [Int.zero_add]
        exact atI_nat (by rw [List.getElem?_map, hz]; rfl)
      obtain ⟨top2, hv2, ht2⟩ := at2 (a := 4) (b := 1000000000) (k := c0 / 4 % 2) w0.1 w0.2
      have hp2 : 0 < top2 := by omega
      walk_at "wks"
      intro r1 r10 r11
      walk_at "wks"
      intro r2 r20 r21
      obtain ⟨wv, hw, hw4⟩ : ∃ wv : Int, atI [V.int 0, V.int 0, V.int 0, V.int 1, V.int 1, V.int 2, V.int 2, V.int 3] (r1 % 8) = some (.int wv) ∧ (wv = 0 ∨ wv = 1 ∨ wv = 2 ∨ wv = 3) := by
        rcases (by omega : r1 % 8 = 0 ∨ r1 % 8 = 1 ∨ r1 % 8 = 2 ∨ r1 % 8 = 3 ∨ r1 % 8 = 4 ∨ r1 % 8 = 5 ∨ r1 % 8 = 6 ∨ r1 % 8 = 7) with e | e | e | e | e | e | e | e <;> rw [e]
        · exact ⟨0, rfl, by omega⟩
        · exact ⟨0, rfl, by omega⟩
        · exact ⟨0, rfl, by omega⟩
        · exact ⟨1, rfl, by omega⟩
        · exact ⟨1, rfl, by omega⟩
        · exact ⟨2, rfl, by omega⟩
        · exact ⟨2, rfl, by omega⟩
        · exact ⟨3, rfl, by omega⟩
      have tt2 : t ≤ tk + r2 % top2 := by
        have := Int.emod_nonneg r2 (by omega : top2 ≠ 0)
        omega
      walk_at "wks"
      rename_i l4 H9 f9 s9 h9 l5 H10 f10 s10 h10
      have s8 := s9.trans s10
      replace h8 := s8 _ _ h8
      replace d8 := s8 _ _ d8
      replace r8 := r8.same s8
      clear s8 h9 s9 f9 f10 s10 h10 tt
      have fw := nm8.few
      have n0 := r8.n0
      refine ⟨fun σ' H' => ∃ (pN : Addr) (ms : List Int) (n t : Int) (v7 v8 v9 v10 v11 v12 v13 : Option V), σ' = [some (.ref D), some (.int (c0 / 4 % 2)), some (.ref pN), some (.ref x), some (.int n), some (.int (tk + r2 % top2)), some (.ref dA), v7, v8, v9, v10, v11, v12, v13, none] ∧
        H' pN = some (.lst (ms.map V.int)) ∧ NumsIn ms ∧ RunAt K H' x (cuN ms) n t ∧ t ≤ tk + r2 % top2 ∧ H' dA = some (.lst (ds.map V.int)), ?_, ?_⟩
      · obtain ⟨dx8, a8, d18, d28, s8, xs8, hx8, _⟩ := r8.ob
        walk_at "wks"
        refine iteV (fun cw => ?_) (fun cw => ?_)
        · walk_at "wks"
          intro rr
          walk_at "wks"
          intro pM mt H11 s11 f11 h11 nm11
          walk_at "wks"
          intro pc xs H12 s12 h12 c12
          refine ⟨x, pc, xs, cuN ms, cuN mt, n, t, tk + r2 % top2, rfl, (r8.same s11).same s12, tt2, h12, c12, cuN_nf mt, fun H13 m13 r13 => ?_⟩
          have hx12 := s12 _ _ (s11 _ _ hx8)
          walk_at "wks"
          refine iteNVF rfl ?_
          exact ⟨pM, mt, n, _, _, _, _, _, _, _, _, rfl, m13.kind hx12 (s12 _ _ h11) (by intro z; cases z), nm11, r13, Int.le_refl _, m13.kind hx12 (s12 _ _ (s11 _ _ d8)) (by intro z; cases z)⟩
        · obtain ⟨d, rfl⟩ : ∃ d : Dw, wv = d.i := by
            rcases hw4 with rfl | rfl | rfl | rfl
            · exact ⟨.go, rfl⟩
            · exact ⟨.back, rfl⟩
            · exact ⟨.goto, rfl⟩
            · exact absurd rfl cw
          clear hw4 hw cw
          walk_at "wks"
          intro r3 r30 r31
          have hl : (0 : Int) < ((ms.map V.int ++ [V.int n, V.int (n + 1), V.int 0]).length : Int) := by
            rw [List.length_append]
            show (0 : Int) < ((_ + 3 : Nat) : Int)
            omega
          obtain ⟨m, hm, m0⟩ : ∃ m : Int, atI (ms.map V.int ++ [V.int n, V.int (n + 1), V.int 0]) (r3 % ((ms.map V.int ++ [V.int n, V.int (n + 1), V.int 0]).length : Int)) = some (.int m) ∧ 0 ≤ m := by
            obtain ⟨v, hv, hv2⟩ := atI_lt (xs := ms.map V.int ++ [V.int n, V.int (n + 1), V.int 0]) (Int.emod_nonneg r3 (by omega)) (Int.emod_lt_of_pos r3 hl)
            rcases List.mem_append.mp (List.mem_of_getElem? hv2) with q | q
            · obtain ⟨y, hy, rfl⟩ := List.mem_map.mp q
              exact ⟨y, hv, Int.le_of_lt (risingN_pos nm8.up y hy)⟩
            · simp only [List.mem_cons, List.not_mem_nil, or_false] at q
              rcases q with rfl | rfl | rfl
              · exact ⟨_, hv, n0⟩
              · exact ⟨_, hv, by omega⟩
              · exact ⟨_, hv, Int.le_refl _⟩
          walk_at "wks"
          rename_i la H11 f11 s11 h11 lb H12 f12 s12 h12
          have s112 := s11.trans s12
          have h8 := s112 _ _ h8
          have d8 := s112 _ _ d8
          have r8 := r8.same s112
          have hx8 := s112 _ _ hx8
          clear s11 f11 h11 s12 f12 s112 hm hl
          refine ⟨pN, ms, d, n, m, rfl, h8, nm8, n0, fun H13 s13 => ?_⟩
          have h8 := s13 _ _ h8
          have d8 := s13 _ _ d8
          have r8 := r8.same s13
          have hx8 := s13 _ _ hx8
          generalize hgo : goalW (cuN ms) n m d = o
          walk_at "wks"
          refine ⟨x, cuN ms, d, n, t, tk + r2 % top2, m, rfl, r8, tt2, m0, fun g hg H14 m14 r14 => ?_, fun hn H14 s14 => ?_⟩
          · rw [hgo] at hg
            cases hg
            unfold optV
            walk_at "wks"
            refine iteNVF rfl ?_
            walk_at "wks"
            exact ⟨pN, ms, g, _, _, _, _, _, _, _, _, rfl, m14.kind hx8 h8 (by intro z; cases z), nm8, r14, Int.le_refl _, m14.kind hx8 d8 (by intro z; cases z)⟩
          · rw [hgo] at hn
            cases hn
            unfold optV
            walk_at "wks"
            exact ⟨pN, ms, n, t, _, _, _, _, _, _, _, rfl, s14 _ _ h8, nm8, r8.same s14, tt2, s14 _ _ d8⟩
      · rintro σ' H11 ⟨pN, ms, n, t, v7, v8, v9, v10, v11, v12, v13, rfl, h8, nm8, r8, tt, d8⟩
        generalize tk + r2 % top2 = tq at *
        walk_at "wks"
        refine ⟨x, cuN ms, n, t, tq, rfl, r8, tt, fun H12 s12 => ?_⟩
        walk_at "wks"
        exact ⟨pN, ms, n, t, tq, _, _, _, _, _, _, _, rfl, s12 _ _ h8, nm8, r8.same s12, tt, s12 _ _ d8⟩
    rintro σ' H8 ⟨pN, ms, n, t, tk, v7, v8, v9, v10, v11, v12, v13, rfl, h8, nm8, r8, tt, d8⟩
    walk_at "wks"
    exact k _
theorem law_facts {fa : Addr} (T : Txt K mg) (hfa : mg "law" = some (.ref fa)) :
    ∃ fd : FuncData, (∀ (s : Shared) (v : Value), BindsTo s fd ⟨[v], []⟩ [("_law_script", v)]) ∧ ∀ base : Heap, K.In base → base.Ns mainGlobals mg → FnOk P w K mg base CX0 10 fa fd ["_law_script"] (spLaw K) := by
  have e := hfa.symm.trans (glo_law T)
  cases e
  obtain ⟨fd, _, F⟩ := ok_law (P := P) (w := w) (base := default) T
  refine ⟨fd, fun s v => FunD.bindsA (ps := ["_law_script"]) F (fun _ _ _ _ _ _ us hl => match us, hl with | [_], _ => rfl) s [v] rfl, fun base _ _ => ?_⟩
  obtain ⟨fd', G, F'⟩ := ok_law (P := P) (w := w) (base := base) T
  have q : fd' = fd := F'.fd_eq F
  rw [← q]
  exact G


end

abbrev R : PySem.W.OpenRow := PySem.W.OpenLaw.row PySem.Challenge.rw_lampcues_k41_numbers_come_to
abbrev hk : PySem.W.Hook := L2.hookY 6 fa fn exB
def ob (s : PySem.W.SharedT) : He.AlD × Bool := L2.obsY 6 fa fn exB (HandSHeadRun.getT s)
theorem ob_eq (s : PySem.W.SharedT) : ob s = hk.obs s.abs := L2.obsY_eq (HandSHeadRun.getT_eq s)
def loose0 : List PySem.Str := ["_wall", "stand", "LampError", "NoTime", "NoSlot", "NoWorth", "NoPart", "NoCue", "NoList", "Late", "MOST_times", "is_time", "LETTERS", "SIDES", "MOST_cues", "is_amid", "is_lamp", "is_slot", "is_worth", "look_at_slots", "look_at_worths", "Part", "are_parts", "Cue", "cue_list", "good_number", "put_in_look", "cue_at", "carried", "shown"]
def loose1 : List PySem.Str := ["above", "below", "times_of", "fades_at", "step_at", "told_on", "Run", "_law_cell_at", "_law_whole", "_law_draw", "_law_rest", "_law_numbers", "_law_cues", "_law_goal", "_law_deed", "_law_stands"]
def loose : List PySem.Str := loose0 ++ loose1
theorem run (w : World) : HandSHeadRun.RunEq R (PySem.W.view R.prog [53]) hk ob 9000 loose w := by
  intro os
  kernel_rfl
end G94
open PySem PySem.W PySem.Calls PyProof.Rows
theorem PySem.Challenge.cw_lampcues_k41_numbers_come_to_holds : PySem.Challenge.rw_lampcues_k41_numbers_come_to.Holds := by
  w_on; o_law
  refine HandSHeadRun.head_any (r := OpenLaw.row PySem.Challenge.rw_lampcues_k41_numbers_come_to) (q := view (OpenLaw.row PySem.Challenge.rw_lampcues_k41_numbers_come_to).prog [53]) (H := G94.hk) (ob := G94.ob) (M := 9000) (loose := G94.loose) (d := HandSHeadRun.topDef (OpenLaw.row PySem.Challenge.rw_lampcues_k41_numbers_come_to).prog 53) (kwd := []) G94.ob_eq
    (by kernel_rfl) (fun s => by kernel_rfl) G94.run (by kernel_rfl) (by kernel_rfl) (by kernel_rfl) (by rfl) (by first | assumption | decide +kernel) (by decide +kernel) ⟨rfl, rfl, rfl, rfl, rfl, by decide +kernel⟩ ?hw ?hc
  case hw => w_witness2
  case hc =>
    refine L2.walk_ofEB (l := PySem.Challenge.rw_lampcues_k41_numbers_come_to) (n := 63) (k := 10) (x := "_law_script") (CX := L2.CX0) rfl (by decide) (by kernel_rfl) ⟨rfl, by decide, by decide⟩ ?F (fun _ _ _ _ z => z)
    intro w mg fa h Y G hmg0
    obtain ⟨K, KX, c, cx⟩ := Y
    have hmg : mg ("law" : PySem.Str) = some (.ref fa) := by
      have e : (HandSHeadRun.topDef (OpenLaw.row PySem.Challenge.rw_lampcues_k41_numbers_come_to).prog 53).name = ("law" : PySem.Str) := by kernel_rfl
      rw [← e]
      exact hmg0
    obtain ⟨fd, hb, hF⟩ := G94.law_facts (P := (PySem.Challenge.rw_lampcues_k41_numbers_come_to).prog) (w := w) ⟨c, ⟨h, KX, G⟩, cx⟩ hmg
    exact ⟨K, fd, G94.spLaw K, KX, hb, fun H a ns hl hb hH hS => ⟨a, ns, rfl, hS, hl, hb, hH, fun _ => rfl⟩, hF⟩
