import PyProof.Rows.All
import Wide.All
import OpenK.AllK
import Wide.FinOn
import KE.KStateDown
import HandS.ForMost
import HandS.Exc
import HandS.TryOnly
import HandS.ExcOwn
import HandS.WordsExc
import HandS.Defaults
import HandS.Wide
import HandS.IsInst
import HandS.ExcIs
import HandS.EndBits
import HandS.TupLe
import HandS.Rev
import HandS.Codes
import HandS.MakeKw
import HandS.StrMore
import HandS.Head0
import HandS.Head1
import HandS.Head2
import HandS.HeadEnd
import HandS.HeadHook1
import HandS.HeadHook2
import HandS.More
import KE.GoesComp
import KE.KAsSuite
import HandS.ExcInit
import HandS.ExcField
import HandS.ExcInitHot
import HandS.SuiteRaise
import HandS.RaiseFrom
import HandS.StrMore
import HandS.HeadHook3
import HandS.ReplaceLit
import HandS.RaiseMore
import HandS.SortKw
import KE.KExcPX
import HandS.ExcValue
import HandS.Walk
import HandS.DictTup
import HandS.TupLen
import HandS.Conv
import HandS.TupSets
import KE.KDictSum
import HandS.Set
import HandS.Strs
import HandS.SetFor
import HandS.Style
import KE.KMinKey
import KE.KDictOf
import KE.KDictKeyed
import KE.KDictCopyH
import KE.KDictDisplayH
import KE.KDictWalk
import KE.SortData
import PySem.Challenge.RW_lampcues_k92_rows_in_order
set_option pp.maxSteps 900
set_option Elab.async false
set_option linter.all false
set_option maxRecDepth 100000
set_option maxHeartbeats 4000000
namespace L2
open PySem PySem.Spec PyProof.Rows
/-! ### own rules, own words -/
/-- a law's end by facts, with the script's bits and the only tracked thing told -/
theorem walk_ofEB {l : PySem.W.OpenLaw} {n k : Nat} {q : Program} {loose : List Str} {XP : (Str → Option Value) → Heap → Prop} {YP : World → Heap → Prop} {d : DefRec} {CX : CXT} {x : Str}
    (hn : l.most = some n) (hn2 : n ≤ sizeLine) (hdf : d.params.defaults = []) (hr : Room k callerA)
    (F : ∀ (w : World) (mg : Str → Option Value) (fa : Addr) (h : Heap), YP w h → h.Ns mainGlobals mg → mg d.name = some (.ref fa) →
      ∃ (K : PySem.W.Frag) (fd : FuncData) (sp : Sp), K.In h ∧ (∀ (s : Shared) (u : Value), BindsTo s fd ⟨[u], []⟩ [(x, u)]) ∧
        (∀ (H : Hp) (a : Addr) (ns : List Int), ns.length ≤ n → (∀ z ∈ ns, Builtin.Int.intBits z ≤ 1048576) → Only H → SqL K H a (ns.map V.int) → sp [.ref a] H (fun v _ => v = .bl true) fun _ _ _ => False) ∧
        ∀ base : Heap, K.In base → base.Ns mainGlobals mg → FnOk l.prog w K mg base CX k fa fd [x] sp)
    (hCX : ∀ (H : Hp) (s : Shared) (e : Value) (s' : Shared), CX [] H s (fun _ _ _ => False) e s' → False) :
    PySem.W.WalkO q loose XP YP l.row.toRowW d [] (fun f vs => PySem.call f vs) := by
  refine Att.attach_callB hn hdf fun w s₀ s₁ mg mb fa o pm cd doc a vs ns G Y ho hd hcd hmg hobj hints hlen hbits hg => ?_
  obtain ⟨K, fd, sp, KX, hb, hsp, hF⟩ := F w mg fa _ Y G.T.g hmg
  exact law_call KX G.T.g G.T.b G.T.builtins G.T.nolimit hg hobj hints (Nat.le_trans hlen hn2) hr hF hb (fun H hO hS => hsp H a ns hlen hbits hO hS) fun H e s' => hCX H s₁ e s'
section
variable {X : Cx}
/-- a written power -/
theorem pe_powC {i j v : Int} {a b : Nat} {p1 p2 pos : Pos} (e : i ^ j.toNat = v) (h : 0 ≤ j ∧ j ≤ 1000000 ∧ i.natAbs < 2 ^ 64) : PE X (.BinOp (.Constant (.int i) a p1) .Pow (.Constant (.int j) b p2) pos) (tC (.int v)) := by
  subst e
  refine ⟨fun pins s σ H Q I q => ?_⟩
  exact (pe_op (X := X) op_pow pe_int pe_int).run pins s σ H Q I ⟨i, j, rfl, rfl, h, q⟩
/-- a written negative number -/
theorem pe_negC {i : Int} {a : Nat} {p1 pos : Pos} : PE X (.UnaryOp .USub (.Constant (.int i) a p1) pos) (tC (.int (-i))) := by
  refine ⟨fun pins s σ H Q I q => ?_⟩
  exact (pe_un (X := X) un_neg pe_int).run pins s σ H Q I ⟨i, rfl, q⟩
end
theorem iteD {c A B : Prop} [Decidable c] (h1 : c → A) (h2 : ¬ c → B) : if decide c = true then A else B := by
  by_cases h : c
  · rw [if_pos (decide_eq_true h)]
    exact h1 h
  · rw [if_neg (by rw [decide_eq_false h]; exact Bool.false_ne_true)]
    exact h2 h
theorem iteND {c A B : Prop} [Decidable c] (h1 : ¬ c → A) (h2 : c → B) : if (!decide c) = true then A else B := by
  by_cases h : c
  · rw [decide_eq_true h]
    exact iteF (h2 h)
  · rw [decide_eq_false h]
    exact iteT (h1 h)
theorem iteV {a b : Int} {A B : Prop} (h1 : a = b → A) (h2 : a ≠ b → B) : if decide (V.int a = V.int b) = true then A else B :=
  iteD (fun e => h1 (V.int.inj e)) fun e => h2 fun q => e (congrArg V.int q)
theorem iteNV {a b : Int} {A B : Prop} (h1 : a ≠ b → A) (h2 : a = b → B) : if (!decide (V.int a = V.int b)) = true then A else B :=
  iteND (fun e => h1 fun q => e (congrArg V.int q)) fun e => h2 (V.int.inj e)
theorem iteB {b : Bool} {A B : Prop} (h1 : b = true → A) (h2 : b = false → B) : if b = true then A else B := by
  cases b with
  | true => exact iteT (h1 rfl)
  | false => exact iteF (h2 rfl)
theorem iteDT {c A B : Prop} [Decidable c] (h : c) (h1 : A) : if decide c = true then A else B := iteD (fun _ => h1) fun q => absurd h q
theorem iteDF {c A B : Prop} [Decidable c] (h : ¬ c) (h1 : B) : if decide c = true then A else B := iteD (fun q => absurd q h) fun _ => h1
theorem iteVT {a b : Int} {A B : Prop} (h : a = b) (h1 : A) : if decide (V.int a = V.int b) = true then A else B := iteV (fun _ => h1) fun q => absurd h q
theorem iteVF {a b : Int} {A B : Prop} (h : a ≠ b) (h1 : B) : if decide (V.int a = V.int b) = true then A else B := iteV (fun q => absurd q h) fun _ => h1
theorem iteNVF {a b : Int} {A B : Prop} (h : a = b) (h1 : B) : if (!decide (V.int a = V.int b)) = true then A else B := iteNV (fun q => absurd h q) fun _ => h1
theorem yes_lc {σ : St} {H : Hp} {A B : Hp → Prop} (h : A H) : tYes σ H (fun b H3 => if b = true then A H3 else B H3) := by
  show if true = true then A H else B H
  rw [if_pos rfl]
  exact h
theorem qT {Q : VK} {H : Hp} {c : Prop} [Decidable c] (h : c) (k : Q (.bl true) H) : Q (.bl (decide c)) H := by
  rw [decide_eq_true h]
  exact k
theorem qF {Q : VK} {H : Hp} {c : Prop} [Decidable c] (h : ¬ c) (k : Q (.bl false) H) : Q (.bl (decide c)) H := by
  rw [decide_eq_false h]
  exact k
theorem iteS {a b : List Nat} {z : Str} {A B : Prop} (e : z = SX.S b) (h1 : a = b → A) (h2 : a ≠ b → B) : if decide (V.str (SX.S a) = V.str z) = true then A else B := by
  subst e
  exact iteD (fun q => h1 (SX.S_inj (V.str.inj q))) fun q => h2 fun r => q (congrArg (fun l => V.str (SX.S l)) r)
theorem iteNSt {a b : List Nat} {z : Str} {A B : Prop} (e : z = SX.S b) (h1 : a ≠ b → A) (h2 : a = b → B) : if (!decide (V.str (SX.S a) = V.str z)) = true then A else B := by
  subst e
  exact iteND (fun q => h1 fun r => q (congrArg (fun l => V.str (SX.S l)) r)) fun q => h2 (SX.S_inj (V.str.inj q))
theorem cut_ints (ns : List Int) (lo hi : Option Int) : ∃ ms : List Int, cutV (ns.map V.int) lo hi = ms.map V.int ∧ ms.length ≤ ns.length ∧ ∀ z ∈ ms, z ∈ ns := by
  refine ⟨(ns.drop (HT.sIx (ns.map V.int).length 0 lo)).take (HT.sIx (ns.map V.int).length (ns.map V.int).length hi - HT.sIx (ns.map V.int).length 0 lo), ?_, ?_, ?_⟩
  · unfold cutV
    rw [List.map_take, List.map_drop]
  · rw [List.length_take, List.length_drop]
    omega
  · intro z hz
    exact List.mem_of_mem_drop (List.mem_of_mem_take hz)
theorem int_at {ns : List Int} {i : Nat} {y : V} (h : (ns.map V.int)[i]? = some y) : ∃ z, y = V.int z ∧ ns[i]? = some z ∧ i < ns.length := by
  rw [List.getElem?_map] at h
  cases e : ns[i]? with
  | none =>
    rw [e] at h
    cases h
  | some z =>
    rw [e] at h
    exact ⟨z, (Option.some.inj h).symm, rfl, (List.getElem?_eq_some_iff.mp e).1⟩
theorem atI_lt {xs : List V} {k : Int} (h0 : 0 ≤ k) (h1 : k < xs.length) : ∃ v, atI xs k = some v ∧ xs[k.toNat]? = some v := by
  have hl : k.toNat < xs.length := by omega
  refine ⟨xs[k.toNat], ?_, List.getElem?_eq_getElem hl⟩
  obtain ⟨n, rfl⟩ : ∃ n : Nat, k = n := ⟨k.toNat, by omega⟩
  exact atI_nat (List.getElem?_eq_getElem hl)
theorem at2 {a b k : Int} (h0 : 0 ≤ k) (h1 : k < 2) : ∃ v, atI [V.int a, V.int b] k = some (V.int v) ∧ ((k = 0 ∧ v = a) ∨ (k = 1 ∧ v = b)) := by
  rcases (by omega : k = 0 ∨ k = 1) with rfl | rfl
  · exact ⟨a, rfl, .inl ⟨rfl, rfl⟩⟩
  · exact ⟨b, rfl, .inr ⟨rfl, rfl⟩⟩
theorem at3 {a b c k : Int} (h0 : 0 ≤ k) (h1 : k < 3) : ∃ v, atI [V.int a, V.int b, V.int c] k = some (V.int v) ∧ ((k = 0 ∧ v = a) ∨ (k = 1 ∧ v = b) ∨ (k = 2 ∧ v = c)) := by
  rcases (by omega : k = 0 ∨ k = 1 ∨ k = 2) with rfl | rfl | rfl
  · exact ⟨a, rfl, .inl ⟨rfl, rfl⟩⟩
  · exact ⟨b, rfl, .inr (.inl ⟨rfl, rfl⟩)⟩
  · exact ⟨c, rfl, .inr (.inr ⟨rfl, rfl⟩)⟩
/-- a call that writes all parameters, the last ones by name -/
theorem kb_all {K : PySem.W.Frag} {x qual : Str} {params : Arguments} {body : List Stmt} {scope : Scope} {dvs : List V} {kws : List (Str × V)} {f : Addr} {fd : FuncData} {ps : List Str} (F : FunD K x qual params body scope dvs kws f fd) (n : Nat) (ks : List Str) (hd : dvs ≠ [])
    (h : ∀ (T : Addr) (kV doc pm : Value) (an : Option Addr) (cdv ct : Value) (us its ws : List Value), us.length = n → its.length = dvs.length → ws.length = ks.length →
      ∃ k, bindArgs (PySem.W.fnOf x qual params body scope (.ref T) kV doc pm an cdv ct) ⟨us, ks.zip ws⟩ = seqItems? (.ref T) >>= k ∧ k (some its.toArray) = pure (ps.zip (us ++ ws))) : KBn K fd ps n ks (fun us ws => us ++ ws) (fun vs zs => vs ++ zs) := by
  obtain ⟨oc, od, dV, kV, doc, pm, an, cdv, ct, osl, rfl, lk, hcd, hD, _⟩ := F.ex
  rcases hD with ⟨e, _⟩ | ⟨_, T, o, its, m, rfl, lT, oT, rT⟩
  · exact absurd e hd
  · refine ⟨fun s us ws X h1 h2 => ?_, fun r1 r2 => r1.append r2⟩
    obtain ⟨k, e1, e2⟩ := h T kV doc pm an cdv ct us its ws h1 rT.length.symm h2
    refine BindsTo.of_looks fun M => ?_
    rw [e1]
    exact looks_items X lT oT (.of_pure e2)
theorem FunD.fd_eq {K : PySem.W.Frag} {x qual : Str} {params : Arguments} {body : List Stmt} {scope : Scope} {dvs : List V} {kws : List (Str × V)} {f : Addr} {fd fd' : FuncData} (F : FunD K x qual params body scope dvs kws f fd) (F' : FunD K x qual params body scope dvs kws f fd') : fd = fd' := by
  obtain ⟨_, _, _, _, _, _, _, _, _, _, _, l, _⟩ := F.ex
  obtain ⟨_, _, _, _, _, _, _, _, _, _, _, l', _⟩ := F'.ex
  rw [l] at l'
  simp only [Option.some.injEq, Obj.mk.injEq, Data.func.injEq] at l'
  exact l'.2.2.1
theorem at4 {a b c d k : Int} (h0 : 0 ≤ k) (h1 : k < 4) : ∃ v, atI ([a, b, c, d].map V.int) k = some (V.int v) := by
  rcases (by omega : k = 0 ∨ k = 1 ∨ k = 2 ∨ k = 3) with rfl | rfl | rfl | rfl
  · exact ⟨a, rfl⟩
  · exact ⟨b, rfl⟩
  · exact ⟨c, rfl⟩
  · exact ⟨d, rfl⟩
theorem ints_last {es : List Int} {v : Int} (h : es.getLast? = some v) : atI (es.map V.int) (-1) = some (V.int v) := by
  obtain ⟨r, e⟩ := List.getLast?_eq_some_iff.mp h
  rw [e, List.map_append]
  exact atI_last _ _
/-- a loop over the signs of a text -/
theorem for_text {l : List Nat} {g : TG} {tb : TS} {D : Ends} {σ : St} {H : Hp} (Pv : Nat → St → Hp → Prop) (h0 : Pv 0 σ H)
    (hs : ∀ (i : Nat) (c : Nat) (σ : St) (H : Hp), l[i]? = some c → Pv i σ H → g (.str ⟨#[c]⟩) σ H (fun σ2 H2 => tb { D with nx := Pv (i + 1), ct := Pv (i + 1), bk := D.nx } σ2 H2))
    (hd : ∀ σ H, Pv l.length σ H → D.nx σ H) :
    ∃ W : Nat → Nat → St → Hp → Prop, (∃ m, W 0 m σ H) ∧ ∀ i m σ H, W i m σ H → ((Its (SX.S l)).stop i H ∧ D.nx σ H) ∨
      ((Its (SX.S l)).go i H ∧ ∃ N : St → Hp → Prop, (∀ σ' H', N σ' H' → ∃ m', m' < m ∧ W (i + 1) m' σ' H') ∧ ∀ v H', (Its (SX.S l)).yld i H v H' → g v σ H' fun σ2 H2 => tb { D with nx := N, ct := N, bk := D.nx } σ2 H2) := by
  refine ⟨fun i m σ H => m = l.length - i ∧ i ≤ l.length ∧ Pv i σ H, ⟨_, rfl, Nat.zero_le _, h0⟩, ?_⟩
  intro i m σ1 H1 hw
  obtain ⟨em, hi, p⟩ := hw
  have es : (SX.S l).cps.size = l.length := by simp
  rcases Nat.lt_or_ge i l.length with hlt | hge
  · right
    refine ⟨(by show i < (SX.S l).cps.size; omega), Pv (i + 1), fun σ' H' p' => ⟨l.length - (i + 1), by omega, rfl, by omega, p'⟩, ?_⟩
    intro v H' hy
    obtain ⟨e, c, hc, ev⟩ := hy
    rw [e, ev]
    refine hs i c σ1 H1 ?_ p
    have h2 : (SX.S l).cps[i]? = l[i]? := by simp
    rw [← h2]
    exact hc
  · left
    refine ⟨(by show (SX.S l).cps.size ≤ i; omega), hd σ1 H1 ?_⟩
    have e : i = l.length := by omega
    rw [← e]
    exact p
theorem atI_head {α : Type} (c : α) (r : List α) : atI (c :: r) 0 = some c := by
  show atI (c :: r) ((0 : Nat) : Int) = some c
  exact atI_nat rfl
theorem small_size {n : Nat} (h : n ≤ 100000) : n ≤ sizeLine := Nat.le_trans h (by decide)
theorem Same.new {H H' : Hp} {p : Addr} {o : HO} (e : Same H H') (h : H' p = none) : Same H (upd H' p o) := fun a u q => by
  rw [upd_ne (ne_of_none (e a u q) h)]
  exact e a u q
theorem Same.mut {H H' : Hp} {p : Addr} {o : HO} (e : Same H H') (h : H p = none) : Same H (upd H' p o) := fun a u q => by
  rw [upd_ne (ne_of_none q h)]
  exact e a u q
/-- o.m(e, .., k = v, ..) -/
def tMethN (C : Addr) (m : Str) (n j : Nat) (sp : Sp) (gV : List V → List V → List V) (E : XK) (ta : TE) (t tk : TA) : TE := fun σ H Q => ta σ H fun x H1 => ∃ a dx fs, x = .ref a ∧ H1 a = some (.ins C dx fs) ∧ fs.lookup m = none ∧
  t σ H1 fun vs H2 => tk σ H2 fun zs H3 => vs.length = n ∧ zs.length = j ∧ sp (gV (x :: vs) zs) H3 Q E
theorem pe_methN {X : Cx} {CX : CXT} {k n : Nat} {f C : Addr} {fd : FuncData} {ps ks : List Str} {sp : Sp} {E : XK} {m : Str} {o e : Expr} {es : List Expr} {kws : List Keyword} {apos pos : Pos} {ta : TE} {t tk : TA} {g : List Value → List Value → List Value} {gV : List V → List V → List V} {pl : Sem Bool}
    (he : PE X o ta) (c : Cls X.K C) (hm : Meth X.K C m f) (F : FnOk X.prog X.w X.K X.mg X.base CX k f fd ps sp) (hr : Room k X.A) (hb : KBn X.K fd ps (n + 1) ks g gV) (hx : Passes CX X E) (ha : PA X (e :: es) t) (hkw : PK X kws tk)
    (hall : (backToKw pos (keywordEach kws X.env)).all (·.1.isSome) = true := by rfl)
    (hks : (backToKw pos (keywordEach kws X.env)).filterMap (·.1) = ks := by rfl)
    (hst : starEach (e :: es) X.env = (false, eval e X.env) :: starEach es X.env := by rfl)
    (hpl : ((backTo pos (starEach (e :: es) X.env)).any (·.1) || (backToKw pos (keywordEach kws X.env)).any (·.1.isNone)) = false := by rfl)
    (ht : eval (.Call (.Attribute o m apos) (e :: es) kws pos) X.env = (do
      let ov ← eval o X.env
      standAt apos.atName
      let (f, first) ← holding [ov] (getMethod ov m pl)
      callWith pos f first (backTo pos (starEach (e :: es) X.env)) (backToKw pos (keywordEach kws X.env))) := by rfl) :
    PE X (.Call (.Attribute o m apos) (e :: es) kws pos) (tMethN C m n ks.length sp gV E ta t tk) := by
  constructor
  intro pins s σ H Q I hh
  apply PySem.W.methodCall_KW (pl := pl) (he := ht)
  apply thn (he.run pins s σ H _ I hh)
  rintro u s1 ⟨x, H1, I1, rx, a, dx, fs, rfl, ea, l, q⟩
  obtain rfl : u = Value.ref a := rx
  apply getmeth_ok I1 ea c hm l
  apply PySem.W.callWith_KW (first := [.ref a]) (h₀ := X.base) I.ok.mod.kin hm.kp hall (hplain := hpl) (he := hst)
  apply thn (ha.run pos pins s1 σ H1 _ I1 q)
  rintro us s2 ⟨vs, H2, I2, r, q2⟩
  apply thn (hkw.run pos pins s2 σ H2 _ I2 q2)
  rintro ws s3 ⟨zs, H3, I3, rz, l1, l2, q3⟩
  refine ⟨I3.kIn, ?_⟩
  rw [hks]
  exact run_fnN (us := .ref a :: us) (vs := .ref a :: vs) F hr hb hx I3 (.cons rfl r) rz (congrArg Nat.succ l1) l2 q3
theorem updN {H : Hp} {a b : Addr} {o u : HO} (h : b ≠ a) (e : H b = some u) : upd H a o b = some u := (upd_ne h).trans e
theorem neN {H : Hp} {a b : Addr} {u : HO} (h' : H b = none) (h : H a = some u) : a ≠ b := ne_of_none h h'
theorem neN2 {H : Hp} {a b : Addr} {u : HO} (h' : H a = none) (h : H b = some u) : a ≠ b := (ne_of_none h h').symm
theorem Same.at {H H' : Hp} {a : Addr} {u : HO} (s : Same H H') (e : H a = some u) : H' a = some u := s a u e
theorem Same.fresh {H H' : Hp} {a : Addr} (s : Same H H') (e : H' a = none) : H a = none := by
  cases h : H a with
  | none => rfl
  | some u =>
    rw [s a u h] at e
    cases e
theorem freshS {H H' : Hp} {a : Addr} (e : H' a = none) (s : Same H H') : H a = none := s.fresh e
/-! ### a head that asks one more thing of the written part -/
def obsY (n : Nat) (fa : List He.Fa) (fn : List He.DefD) (ex : PySem.W.Frag → Bool) (g : Addr → Option Obj) : He.AlD × Bool := (He.obsDG n fa fn g, ex (He.frG g (He.asD g n)))
def hookY (n : Nat) (fa : List He.Fa) (fn : List He.DefD) (ex : PySem.W.Frag → Bool) : PySem.W.Hook where
  α := He.AlD × Bool
  obs := fun s => obsY n fa fn ex s.heap.get?
  val := fun _ => (He.valD fn, true)
  says := fun _ h => ∃ K : PySem.W.Frag, K.In h ∧ He.SaysD fa fn K ∧ ex K = true
  of := fun _ _ e => ⟨_, He.frG_in, congrArg Prod.fst e, congrArg Prod.snd e⟩
  keeps := fun _ _ _ ⟨K, hK, c⟩ k => ⟨K, PySem.W.Frag.In.keeps hK k, c⟩
theorem obsY_eq {n : Nat} {fa : List He.Fa} {fn : List He.DefD} {ex : PySem.W.Frag → Bool} {g : Addr → Option Obj} {s : Shared} (h : ∀ a, g a = s.heap.get? a) : obsY n fa fn ex g = (hookY n fa fn ex).obs s := by
  have e : g = s.heap.get? := funext h
  rw [e]
  rfl
/-! ### what a class of errors must say, as one Bool -/
def excB (K : PySem.W.Frag) (x : Str) : Bool :=
  decide (PySem.W.findIn K (.ref (He.ga K x)) "__getattribute__" = some (some (.builtin "BaseException.__getattribute__"))) && (decide (PySem.W.findIn K (.ref (He.ga K x)) "__getattr__" = some none) &&
  (decide (PySem.W.subIn K (.ref (He.ga K x)) (.type "BaseException") = some true) && (PySem.W.hasDictIn K (He.ga K x) && (decide (PySem.W.findIn K (.ref (He.ga K x)) "__class__" = some (some (.builtin "object.__class__"))) &&
  (decide (PySem.W.specialIn K (.builtin "object.__class__") "__get__" = some (some (.builtin "getset_descriptor.__get__"))) && (decide (PySem.W.takesIn K (.builtin "object.__class__") = some true) && decide (PySem.W.mroIn K (He.ga K x) (.type "object") = some true)))))))
theorem excB_ok {K : PySem.W.Frag} {x : Str} (h : excB K x = true) : ExcC K (He.ga K x) := by
  obtain ⟨h1, h⟩ := He.ba h
  obtain ⟨h2, h⟩ := He.ba h
  obtain ⟨h3, h⟩ := He.ba h
  obtain ⟨h4, h⟩ := He.ba h
  obtain ⟨h5, h⟩ := He.ba h
  obtain ⟨h6, h⟩ := He.ba h
  obtain ⟨h7, h8⟩ := He.ba h
  exact ⟨of_decide_eq_true h1, of_decide_eq_true h2, of_decide_eq_true h3, h4, of_decide_eq_true h5, of_decide_eq_true h6, of_decide_eq_true h7, of_decide_eq_true h8⟩
/-- isinstance of what a suite holds, its class told by the reading -/
def rIsX (K : PySem.W.Frag) (cls : Value) (dc : Option Addr) (a : Addr) : List V → Hp → VK → Prop := fun xs H Q => ∃ D, cls = .ref D ∧ dc = none ∧ ExcC K D ∧ rIsE K D a xs H Q
theorem call_isX {X : Cx} {a : Addr} {cls : Value} {dc : Option Addr} {oe : Obj} {pn : List (Addr × Obj)} (hz : Zc cls dc oe) (hf : ∃ vs, oe.data = .fields vs) : CallR (X.suite a ((a, oe) :: pn)) (.builtin "isinstance") (rIsX X.K cls dc a) := by
  intro pins s σ H xs us Q I r h
  obtain ⟨D, e1, e2, C, q⟩ := h
  subst e1 e2
  exact call_isE C hz hf pins s σ H xs us Q I r q
end L2
/-! ### rules whose readings name the heap behind them -/
namespace L2
open PySem PySem.Spec PyProof.Rows
def Fr (H : Hp) (p : Addr) : Prop := H p = none
/-- all but a stays -/
def But (a : Addr) (H H' : Hp) : Prop := ∀ b u, b ≠ a → H b = some u → H' b = some u
theorem But.up {H : Hp} {a : Addr} {o : HO} : But a H (upd H a o) := fun b u n e => updN n e
theorem But.at {H H' : Hp} {a b : Addr} {u : HO} (m : But a H H') (n : b ≠ a) (e : H b = some u) : H' b = some u := m b u n e
theorem But.kind {H H' : Hp} {a b : Addr} {o u : HO} (m : But a H H') (h : H a = some o) (e : H b = some u) (d : u ≠ o) : H' b = some u := m b u (ne_of e h d) e
theorem But.trans {H H1 H' : Hp} {a : Addr} (m : But a H H1) (n : But a H1 H') : But a H H' := fun b u h e => n b u h (m b u h e)
theorem But.same {H H1 H' : Hp} {a : Addr} (m : But a H H1) (s : Same H1 H') : But a H H' := fun b u h e => s _ _ (m b u h e)
theorem But.before {H H1 H' : Hp} {a : Addr} (m : But a H1 H') (s : Same H H1) : But a H H' := fun b u h e => m b u h (s _ _ e)
theorem Same.thenBut {H H1 H' : Hp} {a : Addr} (s : Same H H1) (m : But a H1 H') : But a H H' := fun b u h e => m b u h (s _ _ e)
theorem Same.but {H H1 H' : Hp} {a : Addr} (s : Same H H1) (m : But a H1 H') (f : Fr H a) : Same H H' := fun b u e => m b u (ne_of_none e f) (s b u e)
/-- all but a and c stays -/
def But2 (a c : Addr) (H H' : Hp) : Prop := ∀ b u, b ≠ a → b ≠ c → H b = some u → H' b = some u
theorem But2.at {H H' : Hp} {a c b : Addr} {u : HO} (m : But2 a c H H') (n1 : b ≠ a) (n2 : b ≠ c) (e : H b = some u) : H' b = some u := m b u n1 n2 e
theorem But2.kind {H H' : Hp} {a c b : Addr} {o o' u : HO} (m : But2 a c H H') (h : H a = some o) (h' : H c = some o') (e : H b = some u) (d : u ≠ o) (d' : u ≠ o') : H' b = some u := m b u (ne_of e h d) (ne_of e h' d') e
theorem But2.refl {H : Hp} {a c : Addr} : But2 a c H H := fun _ _ _ _ e => e
theorem But.two {H H' : Hp} {a c : Addr} (m : But a H H') : But2 a c H H' := fun b u n _ e => m b u n e
theorem But.two' {H H' : Hp} {a c : Addr} (m : But a H H') : But2 c a H H' := fun b u _ n e => m b u n e
theorem Same.two {H H' : Hp} {a c : Addr} (s : Same H H') : But2 a c H H' := fun b u _ _ e => s b u e
theorem But2.trans {H H1 H' : Hp} {a c : Addr} (m : But2 a c H H1) (n : But2 a c H1 H') : But2 a c H H' := fun b u h1 h2 e => n b u h1 h2 (m b u h1 h2 e)
theorem But2.same {H0 H H' : Hp} {a c : Addr} (m : But2 a c H H') (s : Same H0 H) (f : Fr H0 a) (g : Fr H0 c) : Same H0 H' := fun b u e => m b u (ne_of_none e f) (ne_of_none e g) (s _ _ e)
theorem neF {H : Hp} {a b : Addr} {u : HO} (f : Fr H b) (e : H a = some u) : a ≠ b := ne_of_none e f
theorem neF2 {H : Hp} {a b : Addr} {u : HO} (f : Fr H a) (e : H b = some u) : a ≠ b := (ne_of_none e f).symm
theorem Fr.back {H H' : Hp} {p : Addr} (f : Fr H' p) (s : Same H H') : Fr H p := s.fresh f
/-- a new object -/
def New (o : HO) (H : Hp) (Q : VK) : Prop := ∀ (p : Addr) (H' : Hp), Fr H p → Same H H' → H' p = some o → Q (.ref p) H'
theorem New.out {o : HO} {H : Hp} {Q : VK} (h : New o H Q) (p : Addr) (hp : H p = none) : Q (.ref p) (upd H p o) := h p _ hp ((Same.refl H).new hp) upd_same
/-- the object at a is changed -/
def Put (a : Addr) (o : HO) (H : Hp) (Q : Hp → Prop) : Prop := ∀ H', But a H H' → H' a = some o → Q H'
theorem Put.out {a : Addr} {o : HO} {H : Hp} {Q : Hp → Prop} (h : Put a o H Q) : Q (upd H a o) := h _ But.up upd_same
section
variable {X : Cx} {pos : Pos}
def upE (t : TE) : TE := fun σ H Q => ∃ R : VK, t σ H R ∧ ∀ v H', R v H' → Q v H'
theorem PE.up {e : Expr} {t : TE} (h : PE X e t) : PE X e (upE t) := ⟨fun pins s σ H Q I ⟨R, r, k⟩ => thn (h.run pins s σ H R I r) fun u s1 ⟨v, H1, I1, rv, q⟩ => ⟨v, H1, I1, rv, k v H1 q⟩⟩
theorem PE.imp {e : Expr} {t t' : TE} (h : PE X e t) (k : ∀ σ H Q, t' σ H Q → t σ H Q) : PE X e t' := ⟨fun pins s σ H Q I q => h.run pins s σ H Q I (k σ H Q q)⟩
def upA (t : TA) : TA := fun σ H Q => ∃ R : List V → Hp → Prop, t σ H R ∧ ∀ v H', R v H' → Q v H'
theorem PA.up {es : List Expr} {t : TA} (h : PA X es t) : PA X es (upA t) := ⟨fun pos pins s σ H Q I ⟨R, r, k⟩ => thn (h.run pos pins s σ H R I r) fun u s1 ⟨v, H1, I1, rv, q⟩ => ⟨v, H1, I1, rv, k v H1 q⟩⟩
def upG (t : TG) : TG := fun v σ H Q => ∃ R : St → Hp → Prop, t v σ H R ∧ ∀ σ' H', R σ' H' → Q σ' H'
theorem PG.up {e : Expr} {t : TG} (h : PG X e t) : PG X e (upG t) := ⟨fun pins s σ H v u Q I rv ⟨R, r, k⟩ => thn (h.run pins s σ H v u R I rv r) fun _ s1 ⟨σ1, H1, I1, q⟩ => ⟨σ1, H1, I1, k σ1 H1 q⟩⟩
def upT (t : TT) : TT := fun σ H Q => ∃ R : Bool → Hp → Prop, t σ H R ∧ ∀ b H', R b H' → Q b H'
theorem PTs.up {es : List Expr} {t : TT} (h : PTs X es t) : PTs X es (upT t) := ⟨fun pins s σ H Q I ⟨R, r, k⟩ => thn (h.run pins s σ H R I r) fun b s1 ⟨H1, I1, q⟩ => ⟨H1, I1, k b H1 q⟩⟩
theorem PS.imp {st : Stmt} {t t' : TS} (h : PS X st t) (k : ∀ D σ H, t' D σ H → t D σ H) : PS X st t' := ⟨fun pins s σ H D I q => h.run pins s σ H D I (k D σ H q)⟩
theorem OpR.imp {f : Value → Value → Sem Value} {r r' : R2} (h : OpR X f r) (k : ∀ x y H Q, r' x y H Q → r x y H Q) : OpR X f r' := fun pins s σ H x y v u Q I rx ry q => h pins s σ H x y v u Q I rx ry (k x y H Q q)
theorem CallR.imp {f : Value} {r r' : List V → Hp → VK → Prop} (h : CallR X f r) (k : ∀ xs H Q, r' xs H Q → r xs H Q) : CallR X f r' := fun pins s σ H xs us Q I rx q => h pins s σ H xs us Q I rx (k xs H Q q)
theorem MtR.imp {id : String} {r r' : V → List V → Hp → VK → Prop} (h : MtR X id r) (k : ∀ x xs H Q, r' x xs H Q → r x xs H Q) : MtR X id r' := fun pins s σ H x xs v us Q I rx rs q => h pins s σ H x xs v us Q I rx rs (k x xs H Q q)
theorem SlR.imp {r r' : V → Option Int → Option Int → Hp → VK → Prop} (h : SlR X r) (k : ∀ x lo hi H Q, r' x lo hi H Q → r x lo hi H Q) : SlR X r' := fun pins s σ H x v vl vu lo hi sl Q I rx hs pl pu q => h pins s σ H x v vl vu lo hi sl Q I rx hs pl pu (k x lo hi H Q q)
def tLstK (t : TA) : TE := fun σ H Q => t σ H fun xs H1 => xs.length ≤ sizeLine ∧ New (.lst xs) H1 Q
theorem pe_lstK {es : List Expr} {t : TA} (h : PA X es t) : PE X (.List es pos) (tLstK t) := (pe_lst h.up).imp fun σ H Q q => ⟨_, q, fun xs H1 r => ⟨r.1, r.2.out⟩⟩
def tTupK (t : TA) : TE := fun σ H Q => t σ H fun xs H1 => xs.length ≤ sizeLine ∧ New (.tup xs) H1 Q
theorem pe_tupK {x1} {es : List Expr} {t : TA} (h : PA X es t) : PE X (.Tuple es x1 pos) (tTupK t) := (pe_tup h.up).imp fun σ H Q q => ⟨_, q, fun xs H1 r => ⟨r.1, r.2.out⟩⟩
def tDNewTK : TE := fun _ H Q => New (.dT []) H Q
theorem pe_dnewTK : PE X (.Dict [] [] pos) tDNewTK := pe_dnewT.imp fun σ H Q q => q.out
def tDNewKK : TE := fun _ H Q => New (.dK []) H Q
theorem pe_dnewKK : PE X (.Dict [] [] pos) tDNewKK := pe_dnewK.imp fun σ H Q q => q.out
def rCatK : R2 := fun x y H Q => ∃ l b xs zs, x = .ref l ∧ y = .ref b ∧ H l = some (.lst xs) ∧ H b = some (.lst zs) ∧ xs.length + zs.length ≤ sizeLine ∧ New (.lst (xs ++ zs)) H Q
theorem op_catK : OpR X (binaryOp .Add) rCatK := op_cat.imp fun x y H Q ⟨l, b, xs, zs, e1, e2, h1, h2, z, q⟩ => ⟨l, b, xs, zs, e1, e2, h1, h2, z, q.out⟩
def rRepK : R2 := fun x y H Q => ∃ l k xs, x = .ref l ∧ y = .int k ∧ H l = some (.lst xs) ∧ (-(2 ^ 63) ≤ k ∧ k < 2 ^ 63 ∧ xs.length * k.toNat ≤ sizeLine) ∧ New (.lst (List.replicate k.toNat xs).flatten) H Q
theorem op_repK : OpR X (binaryOp .Mult) rRepK := op_rep.imp fun x y H Q ⟨l, k, xs, e1, e2, h1, ⟨z1, z2, z3⟩, q⟩ => ⟨l, k, xs, e1, e2, h1, z1, z2, z3, q.out⟩
def rSlLK (K : PySem.W.Frag) : V → Option Int → Option Int → Hp → VK → Prop := fun x lo hi H Q => ∃ a xs, x = .ref a ∧ SqL K H a xs ∧ New (.lst (cutV xs lo hi)) H Q
theorem sl_listK : SlR X (rSlLK X.K) := sl_list.imp fun x lo hi H Q ⟨a, xs, e, h, q⟩ => ⟨a, xs, e, h, q.out⟩
def rAppK : V → List V → Hp → VK → Prop := fun x vs H Q => ∃ l xs y, x = .ref l ∧ vs = [y] ∧ H l = some (.lst xs) ∧ xs.length < sizeLine ∧ Put l (.lst (xs ++ [y])) H (Q .non)
theorem mt_appendK : MtR X "list.append" rAppK := MtR.imp mt_append fun x xs H Q ⟨l, ys, y, e1, e2, h, z, q⟩ => ⟨l, ys, y, e1, e2, h, z, q.out⟩
def rExtK : V → List V → Hp → VK → Prop := fun x vs H Q => ∃ l b xs zs, x = .ref l ∧ vs = [.ref b] ∧ H l = some (.lst xs) ∧ H b = some (.lst zs) ∧ xs.length + zs.length ≤ sizeLine ∧ Put l (.lst (xs ++ zs)) H (Q .non)
theorem mt_extendK : MtR X "list.extend" rExtK := MtR.imp mt_extend fun x xs H Q ⟨l, b, ys, zs, e1, e2, h, h2, z, q⟩ => ⟨l, b, ys, zs, e1, e2, h, h2, z, q.out⟩
def rPopLK : V → List V → Hp → VK → Prop := fun x vs H Q => ∃ l xs y, x = .ref l ∧ vs = [] ∧ H l = some (.lst xs) ∧ xs[xs.length - 1]? = some y ∧ Put l (.lst xs.dropLast) H (Q y)
theorem mt_popK : MtR X "list.pop" rPopLK := MtR.imp mt_pop fun x xs H Q ⟨l, ys, y, e1, e2, h, z, q⟩ => ⟨l, ys, y, e1, e2, h, z, q.out⟩
def rPopIK : V → List V → Hp → VK → Prop := fun x vs H Q => ∃ l xs i k y, x = .ref l ∧ vs = [.int i] ∧ H l = some (.lst xs) ∧ (-(2 ^ 63) ≤ i ∧ i < 2 ^ 63) ∧ seqIndex? i xs.length = some k ∧ xs[k]? = some y ∧ Put l (.lst (xs.eraseIdx k)) H (Q y)
theorem mt_popAtK : MtR X "list.pop" rPopIK := MtR.imp mt_popAt fun x xs H Q ⟨l, ys, i, k, y, e1, e2, h, z, h3, h4, q⟩ => ⟨l, ys, i, k, y, e1, e2, h, z.1, z.2, h3, h4, q.out⟩
def rClearK : V → List V → Hp → VK → Prop := fun x vs H Q => ∃ l xs, x = .ref l ∧ vs = [] ∧ H l = some (.lst xs) ∧ Put l (.lst []) H (Q .non)
theorem mt_clearK : MtR X "list.clear" rClearK := MtR.imp mt_clear fun x xs H Q ⟨l, ys, e1, e2, h, q⟩ => ⟨l, ys, e1, e2, h, q.out⟩
def rInsK : V → List V → Hp → VK → Prop := fun x vs H Q => ∃ l xs i y, x = .ref l ∧ vs = [.int i, y] ∧ H l = some (.lst xs) ∧ xs.length < sizeLine ∧ (0 ≤ i ∧ i < 2 ^ 63) ∧ Put l (.lst (xs.take i.toNat ++ [y] ++ xs.drop i.toNat)) H (Q .non)
theorem mt_insertK : MtR X "list.insert" rInsK := MtR.imp mt_insert fun x xs H Q ⟨l, ys, i, y, e1, e2, h, z, hi, q⟩ => ⟨l, ys, i, y, e1, e2, h, z, hi.1, hi.2, q.out⟩
def rSetK : V → V → V → Hp → (Hp → Prop) → Prop := fun o i v H Q => ∃ p xs k j, o = .ref p ∧ i = .int k ∧ H p = some (.lst xs) ∧ ixN xs.length k = some j ∧ Put p (.lst (xs.set j v)) H Q
theorem set_listK : PSet X rSetK := fun pins s σ H o i v ov iv u Q I ro ri rv ⟨p, xs, k, j, e1, e2, h, z, q⟩ => set_list pins s σ H o i v ov iv u Q I ro ri rv ⟨p, xs, k, j, e1, e2, h, z, q.out⟩
def rListK (K : PySem.W.Frag) : List V → Hp → VK → Prop := fun xs H Q => ∃ p ys, xs = [.ref p] ∧ (SqL K H p ys ∨ SqT K H p ys) ∧ New (.lst ys) H Q
theorem call_listK : CallR X (.type "list") (rListK X.K) := CallR.imp call_list_of fun xs H Q ⟨p, ys, e, h, q⟩ => ⟨p, ys, e, h, q.out⟩
def rDictDK : List V → Hp → VK → Prop := fun xs H Q => ∃ (a : Addr) (kvs : List (Key × V)), xs = [.ref a] ∧ H a = some (.dK kvs) ∧ New (.dK kvs) H Q
theorem call_dictDK : CallR X (.type "dict") rDictDK := CallR.imp call_dictD fun xs H Q ⟨a, kvs, e, h, q⟩ => ⟨a, kvs, e, .inl h, q.out⟩
def rListDK : List V → Hp → VK → Prop := fun xs H Q => ∃ (a : Addr) (kvs : List (Key × V)), xs = [.ref a] ∧ H a = some (.dK kvs) ∧ New (.lst (kvs.map fun kv => kV kv.1)) H Q
theorem call_listDK (hc : X.calm = true) : CallR X (.type "list") rListDK := CallR.imp (call_listD hc) fun xs H Q ⟨a, kvs, e, h, q⟩ => ⟨a, kvs, e, .inl h, q.out⟩
def rSlTK (K : PySem.W.Frag) : V → Option Int → Option Int → Hp → VK → Prop := fun x lo hi H Q => ∃ a xs, x = .ref a ∧ SqT K H a xs ∧ (cutV xs lo hi).length ≠ xs.length ∧ New (.tup (cutV xs lo hi)) H Q
def rDivK : List V → Hp → VK → Prop := fun xs H Q => ∃ i j, xs = [.int i, .int j] ∧ CDiv i j ∧ New (.tup [.int (i / j), .int (i % j)]) H Q
theorem call_divmodK : CallR X (.builtin "divmod") rDivK := CallR.imp call_divmod fun xs H Q ⟨i, j, e, h, q⟩ => ⟨i, j, e, h, q.out⟩
def rSplitK : V → List V → Hp → VK → Prop := fun x xs H Q => ∃ a b, x = .str a ∧ xs = [.str b] ∧ (b.length == 0) = false ∧ a.length + 2 ≤ sizeLine ∧ New (.lst ((Txt.split a b).map V.str)) H Q
theorem mt_splitK : MtR X "str.split" rSplitK := MtR.imp mt_split fun x xs H Q ⟨a, b, e1, e2, h1, h2, q⟩ => ⟨a, b, e1, e2, h1, h2, q.out⟩
/-- d[k] = v, the keys tuples -/
def sDPutTK (td ty tv : TE) : TS := fun D σ H => tv σ H fun v H1 => td σ H1 fun x H2 => ty σ H2 fun y H3 => ∃ a b kvs k, x = .ref a ∧ y = .ref b ∧ H3 a = some (.dT kvs) ∧ H3 b = some (.tup (k.map kV)) ∧ kvs.length < sizeLine ∧ Put a (.dT (putK kvs k v)) H3 (D.nx σ)
theorem ps_dputTK {o i value : Expr} {td ty tv : TE} {pos' : Pos} (hu : X.A.units + 1 < cLine) (ho : PE X o td) (hi : PE X i ty) (hv : PE X value tv) (hs : swapsWith value (some (.Subscript o i pos')) pos.line X.env = pure false) :
    PS X (.Assign [.Subscript o i pos'] value pos) (sDPutTK td ty tv) := by
  refine (ps_dput hu ho.up hi.up hv.up hs).imp fun D σ H q => ?_
  refine ⟨_, q, fun v H1 q1 => ⟨_, q1, fun x H2 q2 => ⟨_, q2, fun y H3 q3 => ?_⟩⟩⟩
  obtain ⟨a, b, kvs, k, e1, e2, h1, h2, z, r⟩ := q3
  exact ⟨a, _, e1, by rw [e2]; exact DPut.t h1 h2 z, r.out⟩
def sDPutKK (td ty tv : TE) : TS := fun D σ H => tv σ H fun v H1 => td σ H1 fun x H2 => ty σ H2 fun y H3 => ∃ a kvs k, x = .ref a ∧ y = kV k ∧ H3 a = some (.dK kvs) ∧ kvs.length < sizeLine ∧ Put a (.dK (putK kvs k v)) H3 (D.nx σ)
theorem ps_dputKK {o i value : Expr} {td ty tv : TE} {pos' : Pos} (hu : X.A.units + 1 < cLine) (ho : PE X o td) (hi : PE X i ty) (hv : PE X value tv) (hs : swapsWith value (some (.Subscript o i pos')) pos.line X.env = pure false) :
    PS X (.Assign [.Subscript o i pos'] value pos) (sDPutKK td ty tv) := by
  refine (ps_dput hu ho.up hi.up hv.up hs).imp fun D σ H q => ?_
  refine ⟨_, q, fun v H1 q1 => ⟨_, q1, fun x H2 q2 => ⟨_, q2, fun y H3 q3 => ?_⟩⟩⟩
  obtain ⟨a, kvs, k, e1, e2, h1, z, r⟩ := q3
  exact ⟨a, _, e1, by rw [e2]; exact DPut.k h1 z, r.out⟩
def sFldK (K : PySem.W.Frag) (ta tv : TE) (f : Str) : TS := fun D σ H => tv σ H fun y H1 => ta σ H1 fun x H2 => ∃ a C dx fs, x = .ref a ∧ H2 a = some (.ins C dx fs) ∧ Cls K C ∧ NoAttr K C f ∧ fs.length < 1000 ∧ ∃ fs', putF f y fs = fs' ∧ Put a (.ins C dx fs') H2 (D.nx σ)
theorem ps_fldK {o value : Expr} {ta tv : TE} {f : Str} {pos' : Pos} (ha : PE X o ta) (hv : PE X value tv) (hs : swapsWith value (some (.Attribute o f pos')) pos.line X.env = pure false) : PS X (.Assign [.Attribute o f pos'] value pos) (sFldK X.K ta tv f) := by
  refine (ps_fld ha.up hv.up hs).imp fun D σ H q => ?_
  refine ⟨_, q, fun y H1 q1 => ⟨_, q1, fun x H2 q2 => ?_⟩⟩
  obtain ⟨a, C, dx, fs, e1, h1, c, n, z, fs', e2, r⟩ := q2
  exact ⟨a, C, dx, fs, e1, h1, c, n, z, by rw [e2]; exact r.out⟩
def tMakeK (C : Addr) (sp : Sp) (dvs : List V) (E : XK) (t : TA) : TE := fun σ H Q => t σ H fun vs H1 => ∀ (x dx : Addr) (H2 : Hp), Fr H1 x → Same H1 H2 → H2 x = some (.ins C dx []) →
  sp (.ref x :: (vs ++ dvs)) H2 (fun v H3 => v = .non ∧ Q (.ref x) H3) E
theorem tMakeK.out {C : Addr} {sp : Sp} {dvs : List V} {E : XK} {t : TA} {σ : St} {H : Hp} {Q : VK} (q : tMakeK C sp dvs E t σ H Q) : tMake C sp dvs E (upA t) σ H Q := by
  refine ⟨_, q, fun vs H1 r x dx hx hdx ne => r x dx _ hx ?_ upd_same⟩
  exact ((Same.refl H1).new hdx).new (by rw [upd_ne ne.symm]; exact hx)
theorem pe_makeK {CX : CXT} {k : Nat} {C f : Addr} {fd : FuncData} {ps : List Str} {sp : Sp} {x : Str} {p : Pos} {ds : List Value} {dvs : List V} {E : XK} {e : Expr} {es : List Expr} {t : TA} (M : Mk X.K C f) (F : FnOk X.prog X.w X.K X.mg X.base CX k f fd ps sp) (hr : Room (k + 1) X.A) (hg : Gl X x) (hm : X.mg x = some (.ref C)) (hb : Binds X.K fd ps ds) (hd : Vals dvs ds) (hx : Passes CX X E)
    (ha : PA X (e :: es) t) (hdb : (x == ("__debug__" : Str)) = false := by decide) (he : starEach (e :: es) X.env = (false, eval e X.env) :: starEach es X.env := by rfl) (hpl : (backTo pos (starEach es X.env)).any (·.1) = false := by rfl) :
    PE X (.Call (.Name x p) (e :: es) [] pos) (tMakeK C sp dvs E t) := (pe_make M F hr hg hm hb hd hx ha.up hdb he hpl).imp fun σ H Q q => q.out
theorem pe_make0K {CX : CXT} {k : Nat} {C f : Addr} {fd : FuncData} {ps : List Str} {sp : Sp} {x : Str} {p : Pos} {ds : List Value} {dvs : List V} {E : XK} (M : Mk X.K C f) (F : FnOk X.prog X.w X.K X.mg X.base CX k f fd ps sp) (hr : Room (k + 1) X.A) (hg : Gl X x) (hm : X.mg x = some (.ref C)) (hb : Binds X.K fd ps ds) (hd : Vals dvs ds) (hx : Passes CX X E)
    (hdb : (x == ("__debug__" : Str)) = false := by decide) : PE X (.Call (.Name x p) [] [] pos) (tMakeK C sp dvs E tNil) := (pe_make0 M F hr hg hm hb hd hx hdb).imp fun σ H Q q x dx hx hdx ne => q x dx _ hx (((Same.refl H).new hdx).new (by rw [upd_ne ne.symm]; exact hx)) upd_same
end
/-! ### loops and comprehensions over them -/
section
variable {K : PySem.W.Frag} {a : Addr} {xs : List V} {g : TG} {tt : TT} {te : TE} {vs : List Nat} {σ : St} {H1 : Hp} {D : Addr} {Qd : Hp → Prop}
/-- one turn of a comprehension -/
def LcTurn (σ : St) (vs : List Nat) (g : TG) (tt : TT) (te : TE) (D : Addr) (x : V) (H : Hp) (P : Hp → Prop) : Prop :=
  g x (wipe σ vs) H fun σ2 H2 => wipe σ2 vs = wipe σ vs ∧ tt σ2 H2 fun b H3 => if b = true then te σ2 H3 fun y H4 => ∃ acc, H4 D = some (.lst acc) ∧ acc.length < sizeLine ∧ Put D (.lst (acc ++ [y])) H4 P else P H3
theorem LcTurn.out {x : V} {H : Hp} {P : Hp → Prop} (h : LcTurn σ vs g tt te D x H P) : upG g x (wipe σ vs) H fun σ2 H2 => wipe σ2 vs = wipe σ vs ∧ upT tt σ2 H2 fun b H3 =>
    if b = true then upE te σ2 H3 fun y H4 => ∃ acc, H4 D = some (.lst acc) ∧ acc.length < sizeLine ∧ P (upd H4 D (.lst (acc ++ [y]))) else P H3 := by
  refine ⟨_, h, fun σ2 H2 ⟨w, q⟩ => ⟨w, _, q, fun b H3 r => ?_⟩⟩
  cases b with
  | true =>
    rw [if_pos rfl] at r ⊢
    exact ⟨_, r, fun y H4 ⟨acc, h1, h2, h3⟩ => ⟨acc, h1, h2, h3.out⟩⟩
  | false =>
    rw [if_neg Bool.false_ne_true] at r ⊢
    exact r
theorem lcK_list (hD : H1 D = none) (Pv : Nat → Hp → Prop) (h0 : ∀ H', Fr H1 D → Same H1 H' → H' D = some (.lst []) → Pv 0 H') (hl : ∀ i H, i ≤ xs.length → Pv i H → SqL K H a xs) (hs : ∀ i x H, xs[i]? = some x → Pv i H → LcTurn σ vs g tt te D x H (Pv (i + 1))) (hd : ∀ H, Pv xs.length H → Qd H) :
    ∃ W : Nat → Nat → Hp → Prop, (∃ m, W 0 m (upd H1 D (.lst []))) ∧ ∀ i m H, W i m H →
      ((Itl K a).stop i H ∧ Qd H) ∨ ((Itl K a).go i H ∧ ∃ Nx : Hp → Prop, (∀ H', Nx H' → ∃ m', m' < m ∧ W (i + 1) m' H') ∧ ∀ x H', (Itl K a).yld i H x H' → upG g x (wipe σ vs) H' fun σ2 H2 => wipe σ2 vs = wipe σ vs ∧ upT tt σ2 H2 fun b H3 =>
        if b = true then upE te σ2 H3 fun y H4 => ∃ acc, H4 D = some (.lst acc) ∧ acc.length < sizeLine ∧ Nx (upd H4 D (.lst (acc ++ [y]))) else Nx H3) :=
  lc_list Pv (h0 _ hD ((Same.refl H1).new hD) upd_same) hl (fun i x H hx p => (hs i x H hx p).out) hd
theorem lcK_tup (hD : H1 D = none) (Pv : Nat → Hp → Prop) (h0 : ∀ H', Fr H1 D → Same H1 H' → H' D = some (.lst []) → Pv 0 H') (hl : ∀ i H, i ≤ xs.length → Pv i H → SqT K H a xs) (hs : ∀ i x H, xs[i]? = some x → Pv i H → LcTurn σ vs g tt te D x H (Pv (i + 1))) (hd : ∀ H, Pv xs.length H → Qd H) :
    ∃ W : Nat → Nat → Hp → Prop, (∃ m, W 0 m (upd H1 D (.lst []))) ∧ ∀ i m H, W i m H →
      ((Itt K a).stop i H ∧ Qd H) ∨ ((Itt K a).go i H ∧ ∃ Nx : Hp → Prop, (∀ H', Nx H' → ∃ m', m' < m ∧ W (i + 1) m' H') ∧ ∀ x H', (Itt K a).yld i H x H' → upG g x (wipe σ vs) H' fun σ2 H2 => wipe σ2 vs = wipe σ vs ∧ upT tt σ2 H2 fun b H3 =>
        if b = true then upE te σ2 H3 fun y H4 => ∃ acc, H4 D = some (.lst acc) ∧ acc.length < sizeLine ∧ Nx (upd H4 D (.lst (acc ++ [y]))) else Nx H3) :=
  lc_tup Pv (h0 _ hD ((Same.refl H1).new hD) upd_same) hl (fun i x H hx p => (hs i x H hx p).out) hd
theorem lcK_range {lo : Int} {n : Nat} (hD : H1 D = none) (Pv : Nat → Hp → Prop) (h0 : ∀ H', Fr H1 D → Same H1 H' → H' D = some (.lst []) → Pv 0 H') (hs : ∀ i H, i < n → Pv i H → LcTurn σ vs g tt te D (.int (lo + i)) H (Pv (i + 1))) (hd : ∀ H, Pv n H → Qd H) :
    ∃ W : Nat → Nat → Hp → Prop, (∃ m, W 0 m (upd H1 D (.lst []))) ∧ ∀ i m H, W i m H →
      ((Itr lo n).stop i H ∧ Qd H) ∨ ((Itr lo n).go i H ∧ ∃ Nx : Hp → Prop, (∀ H', Nx H' → ∃ m', m' < m ∧ W (i + 1) m' H') ∧ ∀ x H', (Itr lo n).yld i H x H' → upG g x (wipe σ vs) H' fun σ2 H2 => wipe σ2 vs = wipe σ vs ∧ upT tt σ2 H2 fun b H3 =>
        if b = true then upE te σ2 H3 fun y H4 => ∃ acc, H4 D = some (.lst acc) ∧ acc.length < sizeLine ∧ Nx (upd H4 D (.lst (acc ++ [y]))) else Nx H3) :=
  lc_range Pv (h0 _ hD ((Same.refl H1).new hD) upd_same) (fun i H hx p => (hs i H hx p).out) hd
/-- a new pair is unpacked into two names -/
theorem gTup2 {x y : V} {T : Addr} {t : TGs} {H : Hp} {Q : St → Hp → Prop} (hT : H T = none) (h : ∀ H', Same H H' → t [x, y] σ H' Q) : gTup K 2 t (.ref T) σ (upd H T (.tup [x, y])) Q :=
  ⟨T, _, rfl, .of upd_same, rfl, h _ ((Same.refl H).new hT)⟩
end
theorem ins_ne {C C' d d' : Addr} {fs gs : List (Str × V)} (h : fs.length ≠ gs.length) : HO.ins C d fs ≠ HO.ins C' d' gs := fun e => h (by
  injection e with _ _ e
  rw [e])
theorem lkE {a b : Str} {v : V} {r : List (Str × V)} (h : (b == a) = true) : ((a, v) :: r).lookup b = some v := by
  rw [List.lookup_cons, h]
theorem lkN {a b : Str} {v : V} {r : List (Str × V)} {o : Option V} (h : (b == a) = false) (q : r.lookup b = o) : ((a, v) :: r).lookup b = o := by
  rw [List.lookup_cons, h]
  exact q
theorem pfNil {f : Str} {v : V} : putF f v [] = [(f, v)] := rfl
theorem pfE {f g : Str} {v x : V} {r : List (Str × V)} (h : g = f) : putF f v ((g, x) :: r) = (g, v) :: r := if_pos h
theorem pfN {f g : Str} {v x : V} {r r' : List (Str × V)} (h : g ≠ f) (q : putF f v r = r') : putF f v ((g, x) :: r) = (g, x) :: r' := by
  rw [← q]
  exact if_neg h
theorem upd_self {H : Hp} {a : Addr} {o : HO} (h : H a = some o) : upd H a o = H := by
  funext b
  by_cases e : b = a
  · rw [e, upd_same, h]
  · rw [upd_ne e]
/-- a loop whose walk has nothing to give -/
theorem for_none {J : It} {g : TG} {tb : TS} {D : Ends} {σ : St} {H : Hp} (h : J.stop 0 H) (q : D.nx σ H) : ∃ W : Nat → Nat → St → Hp → Prop, (∃ m, W 0 m σ H) ∧ ∀ i m σ H, W i m σ H →
    (J.stop i H ∧ D.nx σ H) ∨ (J.go i H ∧ ∃ N : St → Hp → Prop, (∀ σ' H', N σ' H' → ∃ m', m' < m ∧ W (i + 1) m' σ' H') ∧ ∀ x H', J.yld i H x H' → g x σ H' fun σ2 H2 => tb { D with nx := N, ct := N, bk := D.nx } σ2 H2) := by
  refine ⟨fun i _ σ' H' => i = 0 ∧ σ' = σ ∧ H' = H, ⟨0, rfl, rfl, rfl⟩, ?_⟩
  rintro i m σ' H' ⟨rfl, rfl, rfl⟩
  exact .inl ⟨h, q⟩
theorem lc_none {J : It} {g : TG} {tt : TT} {te : TE} {vs : List Nat} {σ : St} {H1 : Hp} {D : Addr} {Qd : Hp → Prop} (h : J.stop 0 (upd H1 D (.lst []))) (q : Qd (upd H1 D (.lst []))) :
    ∃ W : Nat → Nat → Hp → Prop, (∃ m, W 0 m (upd H1 D (.lst []))) ∧ ∀ i m H, W i m H →
      (J.stop i H ∧ Qd H) ∨ (J.go i H ∧ ∃ Nx : Hp → Prop, (∀ H', Nx H' → ∃ m', m' < m ∧ W (i + 1) m' H') ∧ ∀ x H', J.yld i H x H' → g x (wipe σ vs) H' fun σ2 H2 => wipe σ2 vs = wipe σ vs ∧ tt σ2 H2 fun b H3 =>
        if b = true then te σ2 H3 fun y H4 => ∃ acc, H4 D = some (.lst acc) ∧ acc.length < sizeLine ∧ Nx (upd H4 D (.lst (acc ++ [y]))) else Nx H3) := by
  refine ⟨fun i _ H' => i = 0 ∧ H' = upd H1 D (.lst []), ⟨0, rfl, rfl⟩, ?_⟩
  rintro i m H' ⟨rfl, rfl⟩
  exact .inl ⟨h, q⟩
/-- an empty dict walked by its keys, under its lock -/
theorem lock_keys0 {td : TE} {g : TG} {tb : TS} {D : Ends} {σ : St} {H : Hp} {d : Addr} (hd : H d = some (.dK [])) (hv : ∀ od Q, Q (.ref d) (upd H d (.frz od (.dK []))) → td σ (upd H d (.frz od (.dK []))) Q) (q : D.nx σ H) : tLock (tFor (iKeys td) g tb) D σ H := by
  refine ⟨d, _, hd, trivial, fun od => hv od _ ⟨d, od, rfl, .inl ⟨[], upd_same, ?_⟩⟩⟩
  refine for_none ⟨upd_same, Nat.le_refl _⟩ ⟨upd_same, ?_⟩
  rw [upd_upd, upd_self hd]
  exact q
theorem lock_vals0 {td : TE} {g : TG} {tb : TS} {D : Ends} {σ : St} {H : Hp} {d : Addr} (hd : H d = some (.dK [])) (hv : ∀ od Q, Q (.ref d) (upd H d (.frz od (.dK []))) → td σ (upd H d (.frz od (.dK []))) Q) (q : D.nx σ H) : tLock (tFor (iVals td) g tb) D σ H := by
  refine ⟨d, _, hd, trivial, fun od => hv od _ ⟨d, od, [], rfl, upd_same, ?_⟩⟩
  refine for_none ⟨upd_same, Nat.le_refl _⟩ ⟨upd_same, ?_⟩
  rw [upd_upd, upd_self hd]
  exact q
theorem lock_lc0 {td te : TE} {g : TG} {tt : TT} {vs : List Nat} {σ : St} {H : Hp} {d : Addr} {Q : VK} (hd : H d = some (.dK [])) (hv : ∀ od Q, Q (.ref d) (upd H d (.frz od (.dK []))) → td σ (upd H d (.frz od (.dK []))) Q) (q : New (.lst []) H Q) : tLockE (tLc (iKeys td) g tt te vs) σ H Q := by
  refine ⟨d, _, hd, trivial, fun od => hv od _ ⟨d, od, rfl, .inl ⟨[], upd_same, fun D hD => ?_⟩⟩⟩
  have nd : D ≠ d := (ne_of_none upd_same hD).symm
  have hD0 : H D = none := by
    rw [upd_ne nd] at hD
    exact hD
  refine lc_none ⟨by rw [upd_ne nd.symm]; exact upd_same, Nat.le_refl _⟩ ⟨by rw [upd_ne nd.symm]; exact upd_same, ?_⟩
  have e : upd (upd (upd H d (.frz od (.dK []))) D (.lst [])) d (.dK []) = upd H D (.lst []) := by
    funext b
    by_cases e1 : b = d
    · rw [e1, upd_same, upd_ne nd.symm, hd]
    · rw [upd_ne e1]
      by_cases e2 : b = D
      · rw [e2, upd_same, upd_same]
      · rw [upd_ne e2, upd_ne e2, upd_ne e1]
  rw [e]
  exact q.out D hD0
theorem PT.up {X : Cx} {e : Expr} {t : TT} (h : PT X e t) : PT X e (upT t) := ⟨fun pins s σ H Q I ⟨R, r, k⟩ => thn (h.run pins s σ H R I r) fun b s1 ⟨H1, I1, q⟩ => ⟨H1, I1, k b H1 q⟩⟩
/-- a while, its turns counted down by W's number -/
theorem whileN {c : TT} {tb : TS} {D : Ends} {σ : St} {H : Hp} (W : Nat → St → Hp → Prop) (m0 : Nat) (h0 : W m0 σ H)
    (hs : ∀ m σ H, W m σ H → c σ H fun b H1 => if b = true then tb { D with nx := fun σ' H' => ∃ m', m' < m ∧ W m' σ' H', ct := fun σ' H' => ∃ m', m' < m ∧ W m' σ' H', bk := D.nx } σ H1 else D.nx σ H1) : tWhile (upT c) tb D σ H := by
  refine ⟨W, ⟨m0, h0⟩, fun m σ H w => ⟨_, hs m σ H w, fun b H1 q => ?_⟩⟩
  cases b with
  | true =>
    rw [if_pos rfl] at q ⊢
    exact ⟨_, fun σ' H' h => h, q⟩
  | false =>
    rw [if_neg Bool.false_ne_true] at q ⊢
    exact q
theorem PE.or {X : Cx} {e : Expr} {t u : TE} (h1 : PE X e t) (h2 : PE X e u) : PE X e (fun σ H Q => t σ H Q ∨ u σ H Q) := ⟨fun pins s σ H Q I q => q.elim (h1.run pins s σ H Q I) (h2.run pins s σ H Q I)⟩
theorem szlt {n : Nat} (h : n ≤ 100000) : n < sizeLine := Nat.lt_of_le_of_lt h (by decide)
section
variable {X : Cx} {CX : CXT} {k : Nat} {f : Addr} {fd : FuncData} {ps : List Str} {sp : Sp} {E : St → XK} {x : Str} {p pos : Pos} {e : Expr} {es : List Expr} {t : TA} {ds : List Value} {dvs : List V}
/-- a call in a try, the last parameters left out -/
theorem run_fnSd {pins : List (Addr × Obj)} {σ : St} {H : Hp} {s : Shared} {Q : VK} {us : List Value} {vs : List V} (F : FnOk X.prog X.w X.K X.mg X.base CX k f fd ps sp) (hr : Room k X.A) (hb : Binds X.K fd ps ds) (hd : Vals dvs ds) (hx : PassesAt CX X σ (E σ))
    (I : Inv X pins σ H s) (r : Vals vs us) (h : sp (vs ++ dvs) H Q (E σ)) : wpAny (model X.prog X.w) X.A (call (.ref f) us) (EP X pins σ Q) X.xe s := by
  have hl : us.length + ds.length = ps.length := by
    rw [← r.length, ← hd.length, ← List.length_append]
    exact F.len _ _ _ _ h
  refine wpAny_call (codeAny_mono (F.run X.A X.stack s H ⟨us, []⟩ (us ++ ds) (vs ++ dvs) Q (E σ) hr I.env0 (hb s us I.kIn (by first | exact hl | (rw [List.length_append]; exact hl))) (r.append hd) h) fun r s' hq => ?_)
  cases r with
  | error e => exact hx pins H s e s' I hq
  | ok fl =>
    cases fl with
    | ret u => exact I.after hq
    | next => exact False.elim hq
    | brk => exact False.elim hq
    | cont => exact False.elim hq
def tCallSd (sp : Sp) (dvs : List V) (E : St → XK) (t : TA) : TE := fun σ H Q => t σ H fun vs H1 => sp (vs ++ dvs) H1 Q (E σ)
theorem pe_callSd (F : FnOk X.prog X.w X.K X.mg X.base CX k f fd ps sp) (hr : Room k X.A) (hg : Gl X x) (hm : X.mg x = some (.ref f)) (hk : PySem.W.keepIn X.K (.ref f) = true) (hb : Binds X.K fd ps ds) (hd : Vals dvs ds) (hx : ∀ σ, PassesAt CX X σ (E σ))
    (ha : PA X (e :: es) t) (hdb : (x == ("__debug__" : Str)) = false := by decide) (he : starEach (e :: es) X.env = (false, eval e X.env) :: starEach es X.env := by rfl) (hpl : (backTo pos (starEach es X.env)).any (·.1) = false := by rfl) :
    PE X (.Call (.Name x p) (e :: es) [] pos) (tCallSd sp dvs E t) := by
  refine ⟨fun pins s σ H Q I h => ?_⟩
  refine wpAny_Call_Name_kw (ld_glob I hg hm ?_ hdb)
  refine PySem.W.callWith_K (h₀ := X.base) I.ok.mod.kin hk (thn (ha.run pos pins s σ H _ I h) fun us s1 ⟨vs, H1, I1, r, q⟩ => ⟨I1.kIn, ?_⟩) he hpl
  exact run_fnSd F hr hb hd (hx σ) I1 r q
def rCatTK (K : PySem.W.Frag) : R2 := fun x y H Q => ∃ a b xs ys, x = .ref a ∧ y = .ref b ∧ SqT K H a xs ∧ SqT K H b ys ∧ xs ≠ [] ∧ ys ≠ [] ∧ xs.length + ys.length ≤ sizeLine ∧ New (.tup (xs ++ ys)) H Q
theorem op_catTK : OpR X (binaryOp .Add) (rCatTK X.K) := OpR.imp op_catT fun x y H Q ⟨a, b, xs, ys, e1, e2, h1, h2, n1, n2, z, q⟩ => ⟨a, b, xs, ys, e1, e2, h1, h2, n1, z, fun e => absurd e n2, fun _ => q.out⟩
def rTupK (K : PySem.W.Frag) : List V → Hp → VK → Prop := fun xs H Q => ∃ p ys, xs = [.ref p] ∧ SqL K H p ys ∧ New (.tup ys) H Q
theorem call_tupleK : CallR X (.type "tuple") (rTupK X.K) := CallR.imp call_tuple_of fun xs H Q ⟨p, ys, e, h, q⟩ => ⟨p, ys, e, .inl ⟨h, q.out⟩⟩
end
end L2
/-! x in a tuple, by data -/
namespace L2
open PySem PySem.Spec PyProof.Rows
theorem units65 {k : Nat} {A : Around} (r : Room k A) : A.units + 65 < cLine := by
  have := r.un
  omega
section
variable {X : Cx}
/-- x in a tuple, both data -/
def rInTD (K : PySem.W.Frag) : R2 := fun x y H Q => ∃ p xs d ds, y = .ref p ∧ SqT K H p xs ∧ Dp K H x d ∧ DpAll K H xs ds ∧ SeqAt.shaped d = true ∧ SeqAt.shaped (.list ds) = true ∧ Q (.bl (ds.any fun z => PyData.eqv z d)) H
theorem op_inTD (hu : X.A.units + 65 < cLine) : OpR X (compareOp .In) (rInTD X.K) := by
  intro pins s σ H x y v u Q I rx ry h
  obtain ⟨p, xs, d, ds, rfl, hq, hx, hxs, sd, sl, q⟩ := h
  cases ry
  obtain ⟨bs, r1⟩ := Dp.reads I d x v hx rx
  obtain ⟨its, r, pl, hz⟩ := I.tuple hq
  obtain ⟨as, h4⟩ := Dp.readsAll I ds xs its hxs r
  have hc : PyData.canLayAll0 ds = true := SeqAt.canLay_of_shaped sl
  refine SeqAt.in_tupleAt (fun u => PyData.eqv (SeqAt.readOf s.heap u) d) pl (SeqAt.items_eqAt (vs := its.toArray) (show ReadsAll s.heap its.toArray.toList ds as from h4) r1 hc (SeqAt.canLay_of_shaped sd) (room_in_shaped sd hu)) ⟨.bl _, H, I, rfl, ?_⟩
  have e : its.toArray.any (fun u => PyData.eqv (SeqAt.readOf s.heap u) d) = ds.any fun z => PyData.eqv z d := by
    rw [← SeqAt.readsAll_map ds its as hc h4]
    simp [List.any_map, Function.comp_def]
  rw [e]
  exact q
end
end L2

/-! errors whose class has an __init__ of its own: made, asked by isinstance -/
namespace PySem.W
open PySem PySem.Spec PySem.Calls PyProof.Rows
theorem g94_found {K : Frag} {C : Addr} {od : Option Obj} {nm : Str} {at_ gt : Value} (c : (clsIn K C).isSome = true) (f : findIn K (.ref C) nm = some (some at_)) (g : specialIn K at_ "__get__" = some (some gt)) (t : takesIn K at_ = some true) : findObj K C od nm = some (.bind gt at_) := by
  cases hc : clsIn K C with
  | none =>
    rw [hc] at c
    cases c
  | some cd => simp [findObj, hc, f, g, t]
section
variable {prog : Program} {w : World} {A : Around} {E : Value → Shared → Prop} {K : Frag} {x D : Addr} {ox : Obj} {od : Option Obj}
theorem g94_isCls (C : L2.ExcC K D) : (clsIn K D).isSome = true := by
  obtain ⟨cd, hc, _⟩ := any_some C.hd
  rw [hc]
  rfl
/-- e.__class__ of such an error, whether it has its dict or not -/
theorem g94_class {Q : Option Value → Shared → Prop} {s : Shared} (C : L2.ExcC K D) (X : K.In s.heap) (J : InstAt s.heap x ox D od) (q : Q (some (.ref D)) { s with toks := s.toks + 1 }) :
    wpAny (model prog w) A (getAttr? (.ref x) "__class__") Q E s := by
  obtain ⟨hp, g, d, t, os⟩ := s
  have T0 := J.type (M := model prog w)
  have T1 := looks_findIn (M := model prog w) X C.hg
  have T2 := looks_findIn (M := model prog w) X C.hk
  have T3 := looks_find (M := model prog w) X J (g94_found (od := od) (g94_isCls C) C.ha C.hn C.ht)
  have bex : Looks (model prog w) hp (isInstance (.ref x) (.type "BaseException")) true := T0.andThen (looks_subIn X C.hs)
  have n1 : (Value.builtin "BaseException.__getattribute__" == Value.builtin "object.__getattribute__") = false := by decide +kernel
  have n2 : onTheHeap (Value.ref D) = true := by rfl
  unfold getAttr? getAttrBy? getAttrBy
  refine wpAny_bind (wpAny_mkText (wpAny_bind (wpAny_attempt (wpAny_holding (wpAny_bind (T0.at (wpAny_bind (T1.at ?_))))))))
  show wpAny _ _ (if (onTheHeap (Value.ref D) && Value.builtin "BaseException.__getattribute__" == Value.builtin "object.__getattribute__") = true then _ else _) _ _ _
  rw [n1, Bool.and_false, if_neg Bool.false_ne_true]
  unfold getAttrByItsOwn hookBefore
  refine wpAny_bind ?_
  rw [if_pos n2]
  refine T2.at ?_
  refine wpAny_bind (wpAny_attempt (wpAny_holding ?_))
  unfold callGetattribute
  rw [if_neg (show ¬ (false && onTheHeap (Value.builtin "BaseException.__getattribute__")) = true from Bool.false_ne_true)]
  unfold boundAndCalled
  rw [PySem.F.excAttr_ValueError.ga.bind (.ref x)]
  refine wpAny_bind (wpAny_pure (?_ : wpAny _ _ (call (.builtin "BaseException.__getattribute__") [.ref x, .str "__class__" t]) _ _ _))
  refine wpAny_call (codeAny_call_builtin PySem.F.excAttr_ValueError.ga.plain PySem.F.entry_bexc_ga (check_slot (i := "BaseException.__getattribute__") (owner := "BaseException") (n := "__getattribute__") (rest := [.str "__class__" t]) (by decide +kernel) (by decide +kernel) bex (PySem.F.args_bexc_ga (.ref x) (.str "__class__" t)) ?_))
  unfold Builtin.«object.__getattribute__»
  refine wpAny_bind (wpAny_of_eq (a := ((Value.ref x : Value), [Value.str "__class__" t])) (by first | rfl | (simp only [slotArgs]; rfl)) (wpAny_bind (wpAny_pure (wpAny_bind (T0.at (wpAny_bind (T3.at ?_)))))))
  show wpAny _ _ (holding [Value.builtin "object.__class__"] (call (.builtin "getset_descriptor.__get__") [.builtin "object.__class__", .ref x, .ref D]) >>= ret) _ _ _
  refine wpAny_bind (wpAny_holding (wpAny_call (class_get (s := ⟨hp, g, d, t + 1, os⟩) (ox := ox) (od := od) X J C.hm (wpAny_pure ?_))))
  show wpAny _ _ (handedOut (.ref D)) _ _ _
  rw [handedOut_of (v := .ref D) rfl]
  first
    | exact wpAny_pure (wpAny_pure q)
    | exact wpAny_pure q
    | exact wpAny_pure (wpAny_bind (wpAny_pure (wpAny_pure q)))
theorem g94_kit (C : L2.ExcC K D) : KitX K (.ref x) (.ref D) (fun h => ∃ od, InstAt h x ox D od) where
  ty := fun _ _ _ ⟨_, J⟩ => J.type
  it := fun _ _ X _ A' Q' E' s' k q => by
    obtain ⟨cd, hc, _⟩ := any_some C.hd
    unfold clsIn at hc
    split at hc
    · rename_i ho
      unfold isType loadHead
      exact wpAny_bind (wpAny_loadPart (k _ _ (X _ _ ho)) (wpAny_pure q))
    · cases hc
  ne := fun h tp dd its n sl X htp => Bool.eq_false_iff.mpr fun e => by
    obtain ⟨cd, hc, _⟩ := any_some C.hd
    obtain rfl : D = tp := Value.ref.inj (beq_iff_eq.mp e)
    unfold clsIn at hc
    split at hc
    · rename_i ho
      cases (X _ _ ho).symm.trans htp
    · cases hc
  ca := fun X ⟨_, J⟩ q => g94_class C X J q
end
end PySem.W
namespace L2
open PySem PySem.Spec PyProof.Rows
/-- isinstance(e, c), e the exception in the suite, with a dict -/
def rIsD (K : PySem.W.Frag) (cls : Value) (dc : Option Addr) (a : Addr) : List V → Hp → VK → Prop := fun xs H Q => ∃ (D dd : Addr) (fs : List (Str × V)), cls = .ref D ∧ dc = some dd ∧ ExcC K D ∧ H dd = some (.xd fs) ∧ rIsE K D a xs H Q
theorem call_isD {X : Cx} {a : Addr} {cls : Value} {dc : Option Addr} {oe : Obj} {pn : List (Addr × Obj)} (hz : Zc cls dc oe) (hf : ∃ vs, oe.data = .fields vs) : CallR (X.suite a ((a, oe) :: pn)) (.builtin "isinstance") (rIsD X.K cls dc a) := by
  intro pins s σ H xs us Q I r h
  obtain ⟨D, dd, fs, rfl, rfl, C, hd, c, cv, b, rfl, hcv, e, q⟩ := h
  obtain ⟨u, v, rfl, rx, rt⟩ := vals2 r
  obtain rfl : u = Value.ref a := rx
  obtain rfl := hcv _ rt
  obtain ⟨hget, _⟩ := I.pin (a, oe) (List.mem_append.mpr (.inl List.mem_cons_self))
  obtain ⟨vs, hv⟩ := hf
  obtain ⟨mA, hns, _⟩ : ObjOk X.prog X.w H s.heap dd (.xd fs) := I.hok dd _ hd
  obtain ⟨od, ho, _⟩ := lookIn_ns hns
  have J : ∃ od, PySem.W.InstAt s.heap a oe D od := ⟨some od, hget, hz.1, by unfold PySem.W.notCls; rw [hv] <;> rfl, by rw [hz.2]; exact ho⟩
  exact PySem.W.kia_one (PySem.W.g94_kit C) I.kIn J e (fun z => nomatch z) fun tk => ⟨.bl b, H, I.kept (t' := tk) fun _ _ z => z, rfl, q⟩
/-- what an own base's __init__ is -/
structure OwnI (K : PySem.W.Frag) (D : Addr) : Prop where
  rd : PySem.W.readsIn K D (.type "type") = true
  ga : PySem.W.specialIn K (.ref D) "__getattribute__" = some (some (.builtin "type.__getattribute__"))
  at_ : PySem.W.findCls K (.ref D) (.type "type") "__init__" = some (.val (.builtin "ValueError.__init__"))
def ownIB (K : PySem.W.Frag) (x : Str) : Bool := PySem.W.readsIn K (He.ga K x) (.type "type") && (decide (PySem.W.specialIn K (.ref (He.ga K x)) "__getattribute__" = some (some (.builtin "type.__getattribute__"))) && (match PySem.W.findCls K (.ref (He.ga K x)) (.type "type") "__init__" with
  | some (.val (.builtin n)) => n == "ValueError.__init__"
  | _ => false))
theorem ownIB_ok {K : PySem.W.Frag} {x : Str} (h : ownIB K x = true) : OwnI K (He.ga K x) := by
  obtain ⟨h1, h⟩ := He.ba h
  obtain ⟨h2, h3⟩ := He.ba h
  refine ⟨h1, of_decide_eq_true h2, ?_⟩
  split at h3
  · rename_i n e
    rw [e, beq_iff_eq.mp h3]
  · cases h3
section
variable {X : Cx} {e : Expr} {es : List Expr} {ta : TA} {x : Str} {D : Addr} {p1 p2 pos : Pos}
/-- B.__init__(self, ..), B an own class that takes ValueError's -/
theorem pe_ownInit {pl : Sem Bool} (T : OwnI X.K D) (hg : Gl X x) (hm : X.mg x = some (.ref D)) (ha : PA X (e :: es) ta) (hdb : (x == ("__debug__" : Str)) = false := by decide)
    (hc : eval (.Call (.Attribute (.Name x p1) "__init__" p2) (e :: es) [] pos) X.env = (do
      let ov ← eval (.Name x p1) X.env
      standAt p2.atName
      let (f, first) ← holding [ov] (getMethod ov "__init__" pl)
      callWith pos f first (backTo pos (starEach (e :: es) X.env)) (backToKw pos (keywordEach [] X.env))) := by rfl)
    (he : starEach (e :: es) X.env = (false, eval e X.env) :: starEach es X.env := by rfl) (hpl : (backTo pos (starEach es X.env)).any (·.1) = false := by rfl) :
    PE X (.Call (.Attribute (.Name x p1) "__init__" p2) (e :: es) [] pos) (tVeI X.K ta) := by
  constructor
  intro pins s σ H Q I h
  refine PySem.W.methodCall_KW (ld_glob I hg hm (PySem.W.method_cls I.kIn T.ga (PySem.W.cls_value I.kIn T.rd T.at_ (by decide +kernel) ?_)) hdb) hc
  show wpAny _ _ (callWith pos (Value.builtin "ValueError.__init__") [] (backTo pos (starEach (e :: es) X.env)) []) _ _ _
  refine PyProof.Rows.callWith_method1 (thn (ha.run pos pins _ σ H _ (I.tok _) h) fun us s1 ⟨vs, H1, I1, r1, a, C, ws, ev, hl, T1, ea, q⟩ => ?_) he hpl
  subst ev
  match us, r1 with
  | u0 :: ur, .cons ra rw' =>
    obtain rfl : u0 = Value.ref a := ra
    exact oinit_ok T1 I1 ea (by rw [← Paired.length rw', sizeLine_eq]; omega) fun s' J => ⟨.non, H1, J, rfl, q⟩
end
/-- what the written part must say of an error class with its own __init__ -/
def oexB (K : PySem.W.Frag) (x : Str) : Bool := (match K.lookup (He.ga K x) with
  | some ⟨.type "type", _, .cls cd, sl⟩ => (match cd.mro, sl.toList with
    | .ref c :: bm, [_, _, _, _, some (.builtin n), _] => c == He.ga K x && (n == "ValueError.__new__" && (cd.hasDict && (!cd.hasDel && PySem.HandSPX.refsVE bm)))
    | _, _ => false)
  | _ => false) && (decide (PySem.W.findIn K (.ref (He.ga K x)) "__setattr__" = some (some (.builtin "object.__setattr__"))) && (decide (PySem.W.subIn K (.ref (He.ga K x)) (.type "BaseException") = some true) &&
  (decide (PySem.W.typeIn K (.ref (He.ga K x)) = some (.type "type")) && PySem.W.keepIn K (.ref (He.ga K x)))))
theorem oexB_ok {K : PySem.W.Frag} {x : Str} (h : oexB K x = true) : OexC K (He.ga K x) := by
  obtain ⟨h1, h⟩ := He.ba h
  obtain ⟨h2, h⟩ := He.ba h
  obtain ⟨h3, h⟩ := He.ba h
  obtain ⟨h4, h5⟩ := He.ba h
  refine ⟨?_, of_decide_eq_true h2, of_decide_eq_true h3, of_decide_eq_true h4, h5⟩
  split at h1
  · rename_i dd cd sl ho
    split at h1
    · rename_i c bm k0 k1 k2 k3 n k5 hm hs
      obtain ⟨e1, h1⟩ := He.ba h1
      obtain ⟨e2, h1⟩ := He.ba h1
      obtain ⟨e3, h1⟩ := He.ba h1
      obtain ⟨e4, e5⟩ := He.ba h1
      obtain rfl := beq_iff_eq.mp e1
      obtain rfl := beq_iff_eq.mp e2
      obtain ⟨nm, bs, mro, ns, q, hd, sn, sub, ab, col, del⟩ := cd
      dsimp only at hm e3 e4
      subst hm e3
      obtain rfl : del = false := by
        cases del with
        | true => cases e4
        | false => rfl
      obtain ⟨l⟩ := sl
      dsimp only at hs
      subst hs
      exact ⟨nm, q, ns, bs, bm, sn, sub, ab, col, dd, k0, k1, k2, k3, k5, ho, e5⟩
    · cases h1
  · cases h1
end L2

/-! s.ljust(n, sign) -/
namespace L2
open PySem PySem.Spec PyProof.Rows
theorem mt_ljustF {X : Cx} : MtR X "str.ljust" (fun x xs H Q => ∃ (a b : Str) (i : Int), x = .str a ∧ xs = [.int i, .str b] ∧ PadOk i = true ∧ b.length = 1 ∧ Q (.str (Txt.ljustF a i (b.cps.getD 0 0))) H) := by
  intro pins s σ H x xs v us Q I rx rs h
  obtain ⟨a, b, i, rfl, rfl, hp, hb, q⟩ := h
  obtain ⟨t, rfl⟩ := rx
  obtain ⟨u, z, rfl, ⟨t1, rfl⟩, ⟨t2, rfl⟩⟩ := vals2 rs
  exact PyProof.Rows.ljust_fill hp hb fun t' k => ⟨.str _, H, I.tok k, ⟨t', rfl⟩, q⟩
end L2

/-! ### an exception that is kept behind its clause -/
namespace L2
open PySem PySem.Spec PyProof.Rows
/-- the exception at a, told of by its class and its dict -/
def excO (cls : Value) (d : Option Addr) (a : Addr) : HO := .ext fun h => ∃ oe : Obj, h.get? a = some oe ∧ Zc cls d oe ∧ ∃ vs, oe.data = .fields vs
/-- the ends of a suite that keeps what it caught -/
def keepEnds (D : Ends) (i : Nat) (a : Addr) (cls : Value) (d : Option Addr) : Ends :=
  { nx := fun σ' H' => H' a = none → D.nx (σ'.set i none) (upd H' a (excO cls d a)), rt := D.rt, bk := fun _ _ => False, ct := fun _ _ => False }
def wAsK (K : PySem.W.Frag) (c : Value) (i : Nat) (ts : Addr → Value → Option Addr → TS) (D : Ends) : WX := fun cls d σ H =>
  PySem.W.exmOne K cls c = some true ∧ ∀ a, H a = none → ts a cls d (keepEnds D i a cls d) (σ.set i (some (.ref a))) H
section
variable {X : Cx} {x n : Str} {c : Value} {i : Nat} {body suite : List Stmt} {b₀ : Stmt} {np pos pos' : Pos} {tb : WX → TS} {ts : Addr → Value → Option Addr → TS}
theorem ps_try_asK (hs : X.stack = X.env :: X.outer) (hf : X.env.frame = some X.env.locals) (hN : X.N.Nodup) (hi : X.N[i]? = some n) (hln : X.env.kindOf n = some .local) (hc : Names X x c)
    (hb : ∀ (W : WX) (pn : List (Addr × Obj)) (xe : Value → Shared → Prop), Takes (X.tr pn xe) W → PassesOwn (model X.prog X.w) X.A X.env xe → PSs (X.tr pn xe) body (tb W))
    (hsu : ∀ (a : Addr) (oe : Obj) (cls : Value) (d : Option Addr) (pn : List (Addr × Obj)), Zc cls d oe → (∃ vs, oe.data = .fields vs) → PSs (X.suite a ((a, oe) :: pn)) (b₀ :: suite) (ts a cls d)) :
    PS X (.Try body [.ExceptHandler (some (.Name x np)) (some n) (b₀ :: suite) pos'] [] [] pos) (fun D σ H => tb (wAsK X.K c i ts D) D σ H) := by
  constructor
  intro pins s σ H D I h
  have hfr : X.A.frames = some (X.env :: X.outer) := I.ok.frames.trans (congrArg some hs)
  apply wpAny_Try_except
  refine wpAny_mono (PSs.run (hb (wAsK X.K c i ts D) (X.pn ++ pins) (fun e s₁ => wpAny (model X.prog X.w) X.A (noteFrame e X.env) (fun _ s₂ => wpAny (model X.prog X.w) X.A (setFlight e none)
    (fun _ s₃ => wpAny (model X.prog X.w) X.A (handleBy e X.env [.ExceptHandler (some (.Name x np)) (some n) (b₀ :: suite) pos']) (SP X pins D) X.xe s₃) X.xe s₂) X.xe s₁) ?tk PassesOwn.looking) [] s σ H D (I.toTry _) h) ?fine fun _ _ z => z
  case fine =>
    intro f s1 q
    cases f
    case next =>
      obtain ⟨σ1, H1, J, r⟩ := q
      exact wpAny_execs_nil ⟨σ1, H1, J.ofTry I.ok, r⟩
    case brk =>
      obtain ⟨σ1, H1, J, r⟩ := q
      exact ⟨σ1, H1, J.ofTry I.ok, r⟩
    case cont =>
      obtain ⟨σ1, H1, J, r⟩ := q
      exact ⟨σ1, H1, J.ofTry I.ok, r⟩
    case ret u =>
      obtain ⟨v, σ1, H1, J, e, r⟩ := q
      exact ⟨v, σ1, H1, J.ofTry I.ok, e, r⟩
  case tk =>
    rintro u s1 ⟨a, B, sI, pins', σ1, H1, cls, d, rfl, J0, nb, up, sky, na, hos, hag, hx, q⟩
    have J1 : Inv X pins σ1 H1 sI := J0.ofTry I.ok
    have sk : Sky B (X.env :: X.outer) a (Zc cls d) X.env.locals s1.heap := hs ▸ (show Sky B X.stack a (Zc cls d) X.env.locals s1.heap from sky)
    refine Sky.land Zc.steady hfr hf sk fun h2 fly up2 => ?_
    have J2 : Inv X pins σ1 H1 { s1 with heap := h2 } := J1.landed nb fly.1 (up.trans up2) hos hag
    -- a is no record of the frames
    have nf : ∀ (h' : Heap) (o : Obj) (vs : Array Value), h'.FunFrames B (X.env :: X.outer) → h'.get? a = some o → o.data = .fields vs → a ∉ frs (X.env :: X.outer) := by
      intro h' o vs ff e1 e2 hm
      obtain ⟨_, o', e3, no⟩ := ff.mem hm
      cases e1.symm.trans e3
      exact no _ e2
    obtain ⟨o2, vs2, g2, z2, dt2⟩ := fly.there
    have nfr := nf h2 o2 vs2 fly.2.2.1 g2 dt2
    have nL : a ≠ X.env.locals := by
      rintro rfl
      exact nfr (List.mem_filterMap.mpr ⟨X.env, List.mem_cons_self, by rw [hf]⟩)
    have nF : a ∉ X.fs := by
      intro hm
      obtain ⟨e, he, q'⟩ := List.mem_filterMap.mp hm
      exact nfr (List.mem_filterMap.mpr ⟨e, List.mem_cons_of_mem _ he, q'⟩)
    have young : ∀ o, sI.heap.get? a ≠ some o := by
      intro o e
      have z := nb a o e (by rw [hs]; exact nfr)
      rw [fly.2.1] at z
      cases z
    refine PySem.PX.clause_asZ (Z := Zc cls d) (cls := cls) J2.kIn (fun o z => z.1) fly hx ?_ ?_
    · intro Q' E' q'
      obtain ⟨hg, hdbg, hm⟩ := hc
      have S2 := J2.suite g2 dt2 na nL nF
      rcases hm with hm | ⟨hm, hv, hnn⟩
      · exact ld_glob (X := X.suite a ((a, o2) :: (X.pn ++ pins))) S2 hg hm q' hdbg
      · exact ld_blt (X := X.suite a ((a, o2) :: (X.pn ++ pins))) S2 hg hm hv q' hnn hdbg
    intro h3 fly3 up3
    have J3 : Inv X pins σ1 H1 { s1 with heap := h3 } := J1.landed nb fly3.1 ((up.trans up2).trans up3) hos hag
    obtain ⟨o3, vs3, g3, z3, dt3⟩ := PySem.PX.FlyingZ.there fly3
    have S3 := J3.suite g3 dt3 na nL nF
    refine store_ok (X := X.suite a ((a, o3) :: (X.pn ++ pins))) (v := .ref a) S3 hN hi (.inl hln) rfl (fun s5 S5 => ?_) (.inr hln)
    refine wpAny_mono (PSs.run (hsu a o3 cls d (X.pn ++ pins) z3 ⟨_, dt3⟩) [] s5 _ H1 _ S5 (q a na)) ?_ fun _ _ z => z.elim
    intro f s6 r
    have last : ∀ {σ6 : St} {H6 : Hp} {Q : Shared → Prop}, Inv (X.suite a ((a, o3) :: (X.pn ++ pins))) [] σ6 H6 s6 → (H6 a = none → ∀ s7, Inv X pins (σ6.set i none) (upd H6 a (excO cls d a)) s7 → Inv X pins (σ6.set i none) H6 s7 → Q s7) →
        wpAny (model X.prog X.w) X.A (do bindName X.env n .none; unbindBehindTheSuite X.env n pos') (fun _ s7 => Q s7) X.xe s6 := by
      intro σ6 H6 Q S6 fin
      obtain ⟨p1, p2, p3, p4, p5⟩ := S6.pin (a, o3) (List.mem_append.mpr (.inl List.mem_cons_self))
      have J6 : Inv X ((a, o3) :: pins) σ6 H6 s6 := (S6.unsuite I.ok).pins_of (by
        intro p hp
        rcases List.mem_cons.mp hp with rfl | hp
        · exact ⟨p1, p2, p3, p4, p5⟩
        · exact S6.pin p (List.mem_append.mpr (.inl (List.mem_cons_of_mem _ (List.mem_append.mpr (.inr hp))))))
      refine gone_ok J6 hN hi hln fun s7 J7 => ?_
      obtain ⟨r1, r2, r3, r4, r5⟩ := J7.pin (a, o3) (List.mem_append.mpr (.inr List.mem_cons_self))
      have J8 : Inv X pins (σ6.set i none) H6 s7 := J7.pins_of fun p hp => J7.pin p (List.mem_append.mpr (.inr (List.mem_cons_of_mem _ hp)))
      have cne : ∀ y c', X.env.cells.lookup y = some c' → c' ≠ a := by
        rintro y c' e rfl
        obtain ⟨v, oc, g, dc⟩ := J7.cell y _ e
        rw [r1] at g
        cases g
        exact r5 _ dc
      have pne : ∀ p ∈ X.pn ++ pins, p.1 ≠ a := by
        rintro p hp rfl
        exact young _ (J1.pin p hp).1
      have old : ∀ b u, H6 b = some u → upd H6 a (excO cls d a) b = some u := fun b u e => updN (ne_of_none e r2) e
      refine fin r2 s7 ⟨J8.ok, J8.os, J8.bare, ⟨J8.base.keep, J8.base.slot, fun b o e e0 hex => ?_, J8.base.there, fun b xs e => old _ _ (J8.base.tups b xs e), fun b o u e => old _ _ (J8.base.frzs b o u e), fun b ps e => ?_⟩, J8.loc, J8.cell, ?_, fun y c' e => ?_, fun p hp => ?_, ?_, J8.len⟩ J8
      · have nb2 : b ≠ a := by
          rintro rfl
          obtain ⟨o1, e1⟩ := J1.base.there _ o e hex
          exact young o1 e1
        rw [upd_ne nb2]
        exact J8.base.free b o e e0 hex
      · obtain ⟨more, e2⟩ := J8.base.tbls b ps e
        exact ⟨more, old _ _ e2⟩
      · rw [upd_ne nL.symm]
        exact J8.free
      · rw [upd_ne (cne y c' e)]
        exact J8.freeC y c' e
      · obtain ⟨t1, t2, t3, t4, t5⟩ := J8.pin p hp
        exact ⟨t1, by rw [upd_ne (pne p hp)]; exact t2, t3, t4, t5⟩
      · refine HOk.laidN J8.hok (fun _ _ e => e) r2 ⟨⟨o3, r1, z3, _, dt3⟩, ⟨o3, r1⟩, ?_⟩
        rintro ha hb2 ⟨o, e, z, w⟩ st
        exact ⟨o, st o e, z, w⟩
    cases f
    case next =>
      obtain ⟨σ6, H6, S6, q6⟩ := r
      exact last S6 fun n6 s7 J7 _ => ⟨_, _, J7, q6 n6⟩
    case brk =>
      obtain ⟨σ6, H6, S6, q6⟩ := r
      exact q6.elim
    case cont =>
      obtain ⟨σ6, H6, S6, q6⟩ := r
      exact q6.elim
    case ret u =>
      obtain ⟨v6, σ6, H6, S6, r6, q6⟩ := r
      exact last S6 fun n6 s7 _ J7 => ⟨_, _, _, J7, r6, q6⟩
/-- isinstance of an exception that was kept -/
def rIsK (K : PySem.W.Frag) : List V → Hp → VK → Prop := fun xs H Q => ∃ (a D : Addr) (c : V) (cv : Value) (b : Bool), xs = [.ref a, c] ∧ H a = some (excO (.ref D) none a) ∧ ExcC K D ∧ (∀ u, RelV c u → u = cv) ∧ PySem.W.kitOne K (.ref D) cv = some b ∧ Q (.bl b) H
theorem call_isK : CallR X (.builtin "isinstance") (rIsK X.K) := by
  intro pins s σ H xs us Q I r h
  obtain ⟨a, D, c, cv, b, rfl, ha, C, hcv, e, q⟩ := h
  obtain ⟨u1, u2, rfl, r1, r2⟩ := vals2 r
  cases r1
  obtain rfl := hcv _ r2
  obtain ⟨⟨oe, g, z, vs, dt⟩, _⟩ := (show ObjOk X.prog X.w H s.heap a (excO (.ref D) none a) from I.hok a _ ha)
  have J : PySem.W.InstAt s.heap a oe D none := by
    obtain ⟨oc, od, oda, osl⟩ := oe
    obtain ⟨z1, z2⟩ := z
    cases z1
    cases z2
    cases dt
    exact ⟨g, rfl, rfl, trivial⟩
  exact PySem.W.kia_one (PySem.W.handS_kitx_exc C.hg C.hk C.hs C.hd C.ha C.hn C.ht C.hm) I.kIn J e (fun y => nomatch y) fun tk => ⟨.bl b, H, I.kept (t' := tk) fun _ _ y => y, rfl, q⟩
end
end L2

/-! exceptions with fields as values: kept behind their clause or just made (imports: KE.KExcPX, HandS.ExcValue, HandS.ExcInit, HandS.ExcField; behind t_exf, t_keep) -/
namespace L2
open PySem PySem.Spec PyProof.Rows
section
variable {X : Cx}
theorem excO_ok {P : Program} {w : World} {H : Hp} {h : Heap} {a : Addr} {cls : Value} {d : Option Addr} {oe : Obj} {vs : Array Value} (e : h.get? a = some oe) (z : Zc cls d oe) (dt : oe.data = .fields vs) : ObjOk P w H h a (excO cls d a) := by
  refine ⟨⟨oe, e, z, vs, dt⟩, ⟨oe, e⟩, ?_⟩
  rintro h1 h2 ⟨o, e1, z1, w1⟩ st
  exact ⟨o, st o e1, z1, w1⟩
/-- an exception made, as a value -/
def tExV (t : St → Hp → XK → Prop) : TE := fun σ H Q => t σ H fun cls d H1 => ∀ (a : Addr) (H2 : Hp), Fr H1 a → Same H1 H2 → H2 a = some (excO cls d a) → Q (.ref a) H2
theorem pe_exV {e : Expr} {t : St → Hp → XK → Prop} (he : PMk X e t) : PE X e (tExV t) := by
  refine ⟨fun pins s σ H Q I h => wpAny_mono (he pins s σ H _ I h) (fun u s2 m => ?_) fun _ _ x => x⟩
  obtain ⟨a, oe, vs, sI, H1, cls, d, rfl, J, k, hne, ha, hz, hd, _, na, hos, ag, _, q⟩ := m
  have K2 : Inv X pins σ (upd H1 a (excO cls d a)) { sI with heap := s2.heap, gens := s2.gens, drawn := s2.drawn, toks := s2.toks } :=
    J.call (ch := []) (Un.laidN k hne na) (J.hok.laidN k na (excO_ok ha hz hd)) ag (fun _ z => nomatch z)
  obtain ⟨b1, b2, b3, b4, b5⟩ := s2
  obtain rfl : b5 = sI.os := hos
  exact ⟨.ref a, _, K2, rfl, q a _ na ((Same.refl H1).new na) upd_same⟩
/-- a field of an exception that is held -/
def tXfK (K : PySem.W.Frag) (n : Str) (te : TE) : TE := fun σ H Q => te σ H fun x H1 => ∃ (a C dd : Addr) (fs : List (Str × V)) (v : V), x = .ref a ∧ H1 a = some (excO (.ref C) (some dd) a) ∧ XfC K C ∧ PySem.W.findIn K (.ref C) n = some none ∧ H1 dd = some (.xd fs) ∧ fs.lookup n = some v ∧ Q v H1
theorem pe_xfK {e : Expr} {te : TE} {pos : Pos} {n : Str} (he : PE X e te) (hb : attributeBase e n X.env (eval e X.env) = eval e X.env := by rfl) : PE X (.Attribute e n pos) (tXfK X.K n te) := by
  refine ⟨fun pins s σ H Q I h => attr_of hb (thn (he.run pins s σ H _ I h) fun u s1 hh => ?_)⟩
  obtain ⟨x, H1, I1, rx, a, C, dd, fs, v, ex, ea, T, hno, ed, l, q⟩ := hh
  subst ex
  obtain rfl : u = Value.ref a := rx
  obtain ⟨⟨oe, ha, hz, vs, hd⟩, _⟩ := (show ObjOk X.prog X.w H1 s1.heap a (excO (.ref C) (some dd) a) from I1.hok a _ ea)
  obtain ⟨mA, hns, hr⟩ := (show ObjOk X.prog X.w H1 s1.heap dd (.xd fs) from I1.hok dd _ ed)
  obtain ⟨od, ho, hl⟩ := lookIn_ns hns
  obtain ⟨u, hu, ru⟩ := RelO.some_of (v := v) (o := mA n) (by rw [← l]; exact hr n)
  have J : PySem.W.InstAt s1.heap a oe C (some od) := ⟨ha, hz.1, by unfold PySem.W.notCls; rw [hd] <;> rfl, by rw [hz.2]; exact ho⟩
  exact HandSPX.exc_get I1.kIn J T.ga T.gg T.exC (PySem.W.findObj_own T.hdC hno rfl (by rw [hl, hu])) (handed_of ru) ⟨v, H1, I1.tok _, ru, q⟩
/-- isinstance of an exception that is held, with a dict or without -/
def rIsKD (K : PySem.W.Frag) : List V → Hp → VK → Prop := fun xs H Q => ∃ (a D : Addr) (dc : Option Addr) (c : V) (cv : Value) (b : Bool), xs = [.ref a, c] ∧ H a = some (excO (.ref D) dc a) ∧ (∀ dd, dc = some dd → ∃ fs, H dd = some (.xd fs)) ∧ ExcC K D ∧ (∀ u, RelV c u → u = cv) ∧ PySem.W.kitOne K (.ref D) cv = some b ∧ Q (.bl b) H
theorem call_isKD : CallR X (.builtin "isinstance") (rIsKD X.K) := by
  intro pins s σ H xs us Q I r ⟨a, D, dc, c, cv, b, ex, ha, hdc, C, hcv, e, q⟩
  subst ex
  obtain ⟨u1, u2, rfl, r1, r2⟩ := vals2 r
  obtain rfl : u1 = Value.ref a := r1
  obtain rfl := hcv _ r2
  obtain ⟨⟨oe, g, z, vs, dt⟩, _⟩ := (show ObjOk X.prog X.w H s.heap a (excO (.ref D) dc a) from I.hok a _ ha)
  have J : ∃ od, PySem.W.InstAt s.heap a oe D od := by
    cases dc with
    | none => exact ⟨none, g, z.1, by unfold PySem.W.notCls; rw [dt] <;> rfl, by rw [z.2]; trivial⟩
    | some dd =>
      obtain ⟨fs, hd⟩ := hdc dd rfl
      obtain ⟨mA, hns, _⟩ := (show ObjOk X.prog X.w H s.heap dd (.xd fs) from I.hok dd _ hd)
      obtain ⟨od, ho, _⟩ := lookIn_ns hns
      exact ⟨some od, g, z.1, by unfold PySem.W.notCls; rw [dt] <;> rfl, by rw [z.2]; exact ho⟩
  exact PySem.W.kia_one (PySem.W.g94_kit C) I.kIn J e (fun y => nomatch y) fun tk => ⟨.bl b, H, I.kept (t' := tk) fun _ _ y => y, rfl, q⟩
end
end L2

/-! a head whose written part holds the interpreter's own statics, too -/
namespace L2
open PySem PySem.Spec PyProof.Rows
def partZ (n : Nat) (g : Addr → Option Obj) : PySem.W.Frag := He.frG g (He.asD g n ++ [cStatics])
def obsZ (n : Nat) (fa : List He.Fa) (fn : List He.DefD) (ex : PySem.W.Frag → Bool) (g : Addr → Option Obj) : He.AlD × Bool := (He.obsD fa fn (partZ n g), ex (partZ n g))
def hookZ (n : Nat) (fa : List He.Fa) (fn : List He.DefD) (ex : PySem.W.Frag → Bool) : PySem.W.Hook where
  α := He.AlD × Bool
  obs := fun s => obsZ n fa fn ex s.heap.get?
  val := fun _ => (He.valD fn, true)
  says := fun _ h => ∃ K : PySem.W.Frag, K.In h ∧ He.SaysD fa fn K ∧ ex K = true
  of := fun _ _ e => ⟨_, He.frG_in, congrArg Prod.fst e, congrArg Prod.snd e⟩
  keeps := fun _ _ _ ⟨K, hK, c⟩ k => ⟨K, PySem.W.Frag.In.keeps hK k, c⟩
theorem obsZ_eq {n : Nat} {fa : List He.Fa} {fn : List He.DefD} {ex : PySem.W.Frag → Bool} {g : Addr → Option Obj} {s : Shared} (h : ∀ a, g a = s.heap.get? a) : obsZ n fa fn ex g = (hookZ n fa fn ex).obs s := by
  have e : g = s.heap.get? := funext h
  rw [e]
  rfl
end L2

/-! try: .. except C: (raises anew) else: .., where the error that is caught bears no context -/
namespace L2N
open PySem PySem.Spec PyProof.Rows L2
/-- an error whose class has an __init__ of its own, made where nothing is handled: its context is None -/
theorem pmk_oexN {X : Cx} {CX : CXT} {x : Str} {e : Expr} {es : List Expr} {ta : TA} {p pos : Pos} {C fI : Addr} {k : Nat} {fd : FuncData} {ps : List Str} {sp : Sp} {ds : List Value} {dvs : List V} (T : OexC X.K C) (iC : PySem.W.findIn X.K (.ref C) "__init__" = some (some (.ref fI))) (tI : PySem.W.typeIn X.K (.ref fI) = some (.type "function"))
    (F1 : FnOk X.prog X.w X.K X.mg X.base CX k fI fd ps sp) (hr : Room (k + 1) X.A) (hb : Binds X.K fd ps ds) (hd : Vals dvs ds) (hx : Passes CX X (fun _ _ _ => False)) (hg : Gl X x) (hm : X.mg x = some (.ref C)) (ha : PA X (e :: es) ta)
    (hdb : (x == ("__debug__" : Str)) = false := by decide) (he : starEach (e :: es) X.env = (false, eval e X.env) :: starEach es X.env := by rfl) (hpl : (backTo pos (starEach es X.env)).any (·.1) = false := by rfl) :
    L2N.PMk X (.Call (.Name x p) (e :: es) [] pos) (tMkO C sp dvs ta) := by
  intro pins s σ H Q I h
  obtain ⟨nm, q, N, bs, bm, sn, sub, ab, col, dd, k0, k1, k2, k3, k5, hC, hbm⟩ := T.cls
  refine wpAny_Call_Name_kw (ld_glob I hg hm ?_ hdb)
  refine PySem.W.callWith_K (h₀ := X.base) I.ok.mod.kin T.kC (thn (ha.run pos pins s σ H _ I h) fun us s1 ⟨vs, H1, I1, r1, hz, q1⟩ => ⟨I1.kIn, ?_⟩) he hpl
  show wpAny _ _ (call (.ref C) us) _ _ _
  obtain ⟨hp, g, dr, tk, os⟩ := s1
  have hsz : hp.objs.size ≤ hp.objs.size + 1 := Nat.le_succ _
  have hn : H1 (hp.objs.size + 1) = none := I1.hok.fresh hsz
  have hq := q1 (hp.objs.size + 1) hn
  have kk : ∀ b o, hp.get? b = some o → ((hp.push (PySem.W.kdv_tup us)).push (PySem.HandSPX.excO C hp.objs.size)).get? b = some o := fun b o e => Heap.get?_push_of_some _ (Heap.get?_push_of_some _ e)
  have hget : ((hp.push (PySem.W.kdv_tup us)).push (PySem.HandSPX.excO C hp.objs.size)).get? (hp.objs.size + 1) = some (PySem.HandSPX.excO C hp.objs.size) := by heap_get
  have I2 := I1.laid (t' := tk) (a := hp.objs.size + 1) (o := exo (hp.objs.size + 1) C none) (h' := (hp.push (PySem.W.kdv_tup us)).push (PySem.HandSPX.excO C hp.objs.size)) kk hsz (exo_ok hget)
  have r2 : Vals (V.ref (hp.objs.size + 1) :: (vs ++ dvs)) (Value.ref (hp.objs.size + 1) :: (us ++ ds)) := .cons rfl (r1.append hd)
  have hl : (Value.ref (hp.objs.size + 1) :: us ++ ds).length = ps.length := by
    have e := r2.length
    rw [F1.len _ _ _ _ hq] at e
    exact e.symm
  have hus : us.length ≤ sizeLine := by
    rw [← Paired.length r1, sizeLine_eq]
    omega
  refine wpAny_call (PySem.HandSPX.call_own F.excBase_ValueError (fun Y => PySem.HandSPX.refsVE_contains Y bm hbm) (I1.kIn _ _ hC) (PySem.W.looks_findIn I1.kIn iC) (fun self => PySem.W.bind_fn I1.kIn self tI) hus
    (codeAny_mono (F1.run _ X.stack _ _ ⟨Value.ref (hp.objs.size + 1) :: us, []⟩ (Value.ref (hp.objs.size + 1) :: (us ++ ds)) _ _ (fun _ _ _ => False) (hr.make C us []) (I2.env0.make C us []) (hb _ (Value.ref (hp.objs.size + 1) :: us) I2.kIn hl) r2 hq) fun r s' hq' => ?_))
  cases r with
  | error er => exact hx pins σ _ _ er s' I2 hq'
  | ok fl =>
    cases fl with
    | ret u =>
      obtain ⟨v, H2, os2, bare2, un2, hok2, rv, ev, d, fs, ea, ed, hd1, q2⟩ := hq'
      subst ev
      obtain ⟨h2, g2, d2, t2, os'⟩ := s'
      obtain ⟨t0, G, J, kG, ge, hoe, na⟩ := mk_end0 (d2 := d2) (t2 := t2) I1 hsz kk un2 hok2 os2 bare2 ea ed hd1
      exact ⟨rv, hp.objs.size + 1, _, _, ⟨G, g2, d2, t2, os'⟩, _, .ref C, some d, rfl, J, kG, ge, hoe, ⟨rfl, rfl, fun vs hv => by
        cases hv
        rfl⟩, rfl, rfl, na, rfl, bare2, raises_own T.exC T.tyC, q2⟩
    | next => exact False.elim hq'
    | brk => exact False.elim hq'
    | cont => exact False.elim hq'
end L2N
namespace L2H
open PySem PySem.Spec PyProof.Rows L2 HotX
/-- X('m'), to be raised .. from None -/
theorem pmk5_own {X : Cx} {C : Addr} {bmB : List Value} {B newId initId : String} {x m : Str} {j : Nat} {p p2 pos : Pos} (F : ExcBaseFacts B newId initId bmB) (q : PySem.W.excIn X.K C bmB newId = true) (gC : X.mg x = some (.ref C)) (kC : PySem.W.keepIn X.K (.ref C) = true) (r : Raises X (.ref C)) (hg : Gl X x)
    (hdb : (x == ("__debug__" : Str)) = false := by decide) : PMk5 X (.Call (.Name x p) [.Constant (.str m) j p2] [] pos) (fun _ H Q => Q (.ref C) none H) := by
  intro pins s σ H Q I h
  refine wpAny_Call_Name_kw (ld_glob I hg gC ?_ hdb)
  have ha : PA X [.Constant (.str m) j p2] (tCons (tC (.str m)) tNil) := pa_cons pe_str pa_nil
  refine PySem.W.callWith_K (h₀ := X.base) I.ok.mod.kin kC (thn (ha.run pos pins s σ H (fun vs H1 => vs = [V.str m] ∧ H = H1) I ⟨rfl, rfl⟩) fun us s1 hh => ?_)
  obtain ⟨vs, H1, I1, r1, rfl, eH⟩ := hh
  rw [← eH] at I1
  refine ⟨I1.kIn, ?_⟩
  obtain _ | ⟨ru, _ | _⟩ := r1
  obtain ⟨bm, N, nm, qn, bs, hdct, sn, sub, ab, col, dd, k0, k1, k2, k3, k5, mN, hC, hN, hni, T⟩ := exc_obj I1.kIn q
  exact wpAny_call_exc_subT F T hC hN hni (fun h' e hm => mk_of5 I1 hm r h (I1.hok.gone hm.new)) (by show 1 ≤ sizeLine; rw [sizeLine_eq]; omega)
/-- the error is one that the clause names; the clause's suite ends by raising or goes on -/
def wHit (K : PySem.W.Frag) (c : Value) (ts : Addr → Value → Option Addr → TS) (D : Ends) : WX := fun cls d σ H => PySem.W.exmOne K cls c = some true ∧ ∀ a, H a = none → ts a cls d D σ H
theorem ps_try_else {X : Cx} {x : Str} {c : Value} {body suite orelse : List Stmt} {b₀ : Stmt} {np pos pos' : Pos} {tb : WX → TS} {u : TS} {ts : Addr → Value → Option Addr → TS} {Wout : WX} (hs : X.stack = X.env :: X.outer) (hf : X.env.frame = some X.env.locals) (hc : Names X x c)
    (hpa : ∀ hd : Option Value, PassesOwnAt (model X.prog X.w) (X.A.mark hd) X.A X.env X.xe) (tk : L2.Takes X Wout)
    (hb : ∀ (W : WX) (pn : List (Addr × Obj)) (xe : Value → Shared → Prop), L2N.Takes (X.tr pn xe) W → PassesOwn (model X.prog X.w) X.A X.env xe → PSs (X.tr pn xe) body (tb W))
    (hsu : ∀ (a : Addr) (oe : Obj) (cls : Value) (d : Option Addr) (pn : List (Addr × Obj)), L2.Takes (suiteX X a ((a, oe) :: pn)) Wout → HotC (suiteX X a ((a, oe) :: pn)) → PSs (suiteX X a ((a, oe) :: pn)) (b₀ :: suite) (ts a cls d))
    (ho : PSs X orelse u) :
    PS X (.Try body [.ExceptHandler (some (.Name x np)) none (b₀ :: suite) pos'] orelse [] pos) (fun D σ H => tb (wHit X.K c ts D) { D with nx := u D } σ H) := by
  refine ⟨fun pins s σ H D I h => ?_⟩
  have ok := I.ok
  have hfr : X.A.frames = some (X.env :: X.outer) := by rw [ok.frames, hs]
  refine wpAny_Try_except ?_
  refine wpAny_mono ((hb (wHit X.K c ts D) (X.pn ++ pins) (fun e s₁ => wpAny (model X.prog X.w) X.A (noteFrame e X.env) (fun _ s₂ => wpAny (model X.prog X.w) X.A (setFlight e none) (fun _ s₃ =>
    wpAny (model X.prog X.w) X.A (handleBy e X.env [.ExceptHandler (some (.Name x np)) none (b₀ :: suite) pos']) (SP X pins D) X.xe s₃) X.xe s₂) X.xe s₁) (fun v s' xx => ?_) PassesOwn.looking).run [] s σ H { D with nx := u D } (I.toTry _) h) (fun f s1 hsp => ?_) (fun e s1 he => he)
  · obtain ⟨a, B, sI, pins', σ', H', cls, d, rfl, J', nb, up, sky, na, os, ag, hit, hyes⟩ := xx
    have J : Inv X pins σ' H' sI := J'.ofTry ok
    have sky' : Sky B (X.env :: X.outer) a (L2N.Zn cls d) X.env.locals s'.heap := by rw [← hs]; exact sky
    show wpAny (model X.prog X.w) X.A (noteFrame (.ref a) X.env) _ _ _
    refine L2N.Sky.land L2N.Zn.steady hfr hf sky' fun h3 fl3 up3 => ?_
    have J3 : Inv X pins σ' H' { s' with heap := h3 } := J.landed nb fl3.1 (up.trans up3) os ag
    obtain ⟨oe3, vs3, he3, hz3, hd3⟩ := fl3.there
    have nfr : a ∉ frs (X.env :: X.outer) := fun hm => by
      obtain ⟨_, o', e', hnf⟩ := fl3.2.2.1.mem hm
      rw [he3] at e'
      cases e'
      exact hnf _ hd3
    have nL : a ≠ X.env.locals := fun z => nfr (List.mem_filterMap.mpr ⟨X.env, List.mem_cons_self, by rw [hf, z]⟩)
    have nF : a ∉ X.fs := fun hm => by
      obtain ⟨e, he, q⟩ := List.mem_filterMap.mp hm
      exact nfr (List.mem_filterMap.mpr ⟨e, List.mem_cons_of_mem _ he, q⟩)
    have S3 := J3.suite he3 hd3 na nL nF
    refine wpAny_handleBy_cons (codeAny_handlers_test ?_) (by intro q; cases q)
    have LT : PySem.W.Looks (model X.prog X.w) h3 (typeOf (.ref a)) cls := fun A Q E s k q => wpAny_typeOf_ref (k _ _ he3) (by rw [hz3.1]; exact q)
    have LM := PySem.W.exm_one (M := model X.prog X.w) (J3.kIn) LT hit
    have test : ∀ {Q : Value → Shared → Prop} {E : Value → Shared → Prop}, Q c { s' with heap := h3 } → wpAny (model X.prog X.w) (X.A.mark (some (.ref a))) (eval (.Name x np) X.env) Q E { s' with heap := h3 } := fun {Q E} q => by
      obtain ⟨hg, hdbg, hm | ⟨hm, hv, hnn⟩⟩ := hc
      · exact ld_glob (X := X.suite a ((a, oe3) :: (X.pn ++ pins))) S3 hg hm q hdbg
      · exact ld_blt (X := X.suite a ((a, oe3) :: (X.pn ++ pins))) S3 hg hm hv q hnn hdbg
    refine test (LM.here ?_)
    refine codeAny_handlers_suite ?_
    refine HandSPX.lands_againZ fl3 fun h4 fl4 up4 => ?_
    have J4 : Inv X pins σ' H' { s' with heap := h4 } := J.landed nb fl4.1 ((up.trans up3).trans up4) os ag
    obtain ⟨oe4, vs4, he4, hz4, hd4⟩ := fl4.there
    have S4 := J4.suite he4 hd4 na nL nF
    have tkS : L2.Takes (suiteX X a ((a, oe4) :: (X.pn ++ pins))) Wout := fun u2 s2 x2 => by
      obtain ⟨a2, B2, sI2, pn2, σ2, H2, cls2, d2, e2, I2, nb2, up2, sky2, na2, os2, ag2, w2⟩ := x2
      exact tk u2 s2 ⟨a2, B2, sI2, pins, σ2, H2, cls2, d2, e2, unsuiteX I2 ok, nb2, up2, sky2, na2, os2, ag2, w2⟩
    have hot : HotC (suiteX X a ((a, oe4) :: (X.pn ++ pins))) := ⟨(a, oe4), ⟨rfl, vs4, hd4, hz4.2.2 vs4 hd4⟩, List.mem_cons_self⟩
    refine wpAny_mono ((hsu a oe4 cls d (X.pn ++ pins) tkS hot).run [] _ _ H' _ (suiteX_of S4) (hyes a na)) (fun f s6 hsp => ?_) (fun e6 s6 z => hpa (some (.ref a)) e6 s6 z)
    cases f with
    | ret u =>
      obtain ⟨v6, σ6, H6, S6, r6, q6⟩ := hsp
      exact ⟨_, _, _, unsuiteX S6 ok, r6, q6⟩
    | _ =>
      obtain ⟨σ6, H6, S6, q6⟩ := hsp
      exact ⟨_, _, unsuiteX S6 ok, q6⟩
  · cases f with
    | next =>
      obtain ⟨σ', H', J', q⟩ := hsp
      exact ho.run pins s1 σ' H' D (J'.ofTry ok) q
    | ret u =>
      obtain ⟨v, σ', H', J', r, q⟩ := hsp
      exact ⟨v, σ', H', J'.ofTry ok, r, q⟩
    | _ =>
      obtain ⟨σ', H', J', q⟩ := hsp
      exact ⟨σ', H', J'.ofTry ok, q⟩
end L2H

/-! find, rfind, split at a sign, replace(.., 1): texts as lists of their signs -/
namespace FX
open PySem PySem.Builtin.Str PySem.StrLaws
theorem at_iff (l : List Nat) (c i : Nat) : At (SX.S l) (SX.S [c]) (SX.S l).length i ↔ l[i]? = some c := by
  have h := subAt_one (SX.S l) c i
  have e : (SX.S l).cps.toList = l := by simp [SX.S]
  rw [e] at h
  exact h
theorem head_at (a r : List Nat) (c : Nat) : (a ++ c :: r)[a.length]? = some c := by
  rw [List.getElem?_append_right (Nat.le_refl _), Nat.sub_self]
  rfl
theorem occ_S {a r : List Nat} {c : Nat} (h : c ∉ a) {limit : Nat} (hl : 1 ≤ limit) : ∃ rs, occurrences (SX.S (a ++ c :: r)) (SX.S [c]) 0 (SX.S (a ++ c :: r)).length limit = a.length :: rs := by
  rcases occ_head (SX.S (a ++ c :: r)) (SX.S [c]) limit hl with ⟨_, n⟩ | ⟨i, rs, e, hi, hk⟩
  · exact absurd ((at_iff _ _ _).mpr (head_at a r c)) (n a.length)
  · have q := (at_iff _ _ _).mp hi
    refine ⟨rs, ?_⟩
    have h1 : ¬ a.length < i := fun z => hk _ z ((at_iff _ _ _).mpr (head_at a r c))
    have h2 : ¬ i < a.length := fun z => by
      rw [List.getElem?_append_left z] at q
      exact h (List.mem_of_getElem? q)
    rw [e, show i = a.length by omega]
theorem find_S {a r : List Nat} {c : Nat} (h : c ∉ a) : Txt.find (SX.S (a ++ c :: r)) (SX.S [c]) = (a.length : Int) := by
  obtain ⟨rs, e⟩ := occ_S (r := r) h (limit := 1) (Nat.le_refl _)
  unfold Txt.find
  rw [e]
theorem rfind_S {a r : List Nat} {c : Nat} (h : c ∉ r) : Txt.rfind (SX.S (a ++ c :: r)) (SX.S [c]) = (a.length : Int) := by
  unfold Txt.rfind
  rcases last_spec (SX.S (a ++ c :: r)) (SX.S [c]) with ⟨_, n⟩ | ⟨i, e, hi, hk⟩
  · exact absurd ((at_iff _ _ _).mpr (head_at a r c)) (n a.length)
  · have q := (at_iff _ _ _).mp hi
    have h1 : ¬ i < a.length := fun z => hk _ z ((at_iff _ _ _).mpr (head_at a r c))
    have h2 : ¬ a.length < i := fun z => by
      rw [List.getElem?_append_right (by omega), show i - a.length = (i - a.length - 1) + 1 by omega, List.getElem?_cons_succ] at q
      exact h (List.mem_of_getElem? q)
    rw [e, show i = a.length by omega]
/-- x.replace(y, z, 1) where y occurs -/
def replace1 (x y z : Str) : Str := glued z (partsBetween x (occurrences x y 0 x.length 1) y.length)
theorem sub_S (l : List Nat) (i j : Nat) : strSub (SX.S l) i j = SX.S ((l.take j).drop i) := by
  unfold strSub
  refine TL.ext_tl ?_
  show ((SX.S l).cps.extract i j).toList = (SX.S ((l.take j).drop i)).cps.toList
  simp [SX.S, List.extract_eq_drop_take, List.drop_take]
theorem replace1_S {a r z : List Nat} {c : Nat} (h : c ∉ a) : replace1 (SX.S (a ++ c :: r)) (SX.S [c]) (SX.S z) = SX.S (a ++ (z ++ r)) := by
  obtain ⟨rs, e⟩ := occ_S (r := r) h (limit := 1) (Nat.le_refl _)
  have hl := occ_length_le (SX.S (a ++ c :: r)) (SX.S [c]) 0 (SX.S (a ++ c :: r)).length 1
  have hr : rs = [] := by
    rw [e] at hl
    exact List.length_eq_zero_iff.mp (by simp only [List.length_cons] at hl; omega)
  unfold replace1
  rw [e, hr]
  show glued (SX.S z) [strSub (SX.S (a ++ c :: r)) 0 a.length, strSub (SX.S (a ++ c :: r)) (a.length + (SX.S [c]).length) (SX.S (a ++ c :: r)).length] = _
  rw [sub_S, sub_S, List.take_left, List.drop_zero]
  have e2 : (List.drop (a.length + (SX.S [c]).length) (List.take (SX.S (a ++ c :: r)).length (a ++ c :: r))) = r := by
    rw [SX.S_len, SX.S_len, List.take_length, List.drop_append, List.drop_eq_nil_of_le (by simp), List.nil_append]
    show List.drop (a.length + 1 - a.length) (c :: r) = r
    rw [show a.length + 1 - a.length = 1 by omega]
    rfl
  rw [e2]
  show (⟨(SX.S a).cps ++ (SX.S z).cps ++ (SX.S r).cps⟩ : Str) = _
  exact TL.ext_tl (by simp [SX.S])
/-- the words between the signs c -/
def words (c : Nat) (l : List Nat) : List (List Nat) := TL.spl [c] 0 [] l
theorem words_S {c : Nat} (l : List Nat) (hc : c < 256) : Txt.split (SX.S l) (SX.S [c]) = (words c l).map SX.S := SX.split_S (List.cons_ne_nil _ _) (by simp [hc])
theorem words_join {c : Nat} {ws : List (List Nat)} (hne : ws ≠ []) (h : ∀ p ∈ ws, c ∉ p) : words c (TL.joinL [c] ws) = ws := SX.spl_join hne h
end FX

/-! x.replace(y, z, 1) within a list display -/
namespace PySem
open Builtin Builtin.Str
theorem gives_str_replace1 (x y z : Str) (t u v m : Tok) (hc : (occurrences x y 0 x.length 1).isEmpty = false) (hy : (y.length == 0) = false) (h0 : (u == 0 || v == 0) = false) (huv : (u == v) = false) (hyz : (y == z) = false)
    (hl : tooLong (x.length + (occurrences x y 0 x.length 1).length * z.length) = false) :
    Gives («str.replace» ⟨[.str x t, .str y u, .str z v, .int 1 m], []⟩) (.str (glued z (partsBetween x (occurrences x y 0 x.length 1) y.length))) := by
  show Gives (if ((occurrences x y 0 x.length 1).isEmpty || (y.length == 0 && z.length == 0)) = true then (do rule "str.replace.nothing"; ret (.str x t))
          else (do let same ← isSame (.str y u) (.str z v)
                   if same = true then (do rule "str.replace.old-is-new"; ret (.str x t)) else
                   if tooLong (x.length + (occurrences x y 0 x.length 1).length * z.length) = true then unsupported "str.replace:memory" else
                   retStr (glued z (partsBetween x (occurrences x y 0 x.length 1) y.length)))) _
  rw [hc, hy, isSame_str_other y z u v h0 huv hyz, hl]
  exact .of_eq rfl
end PySem
namespace L2
open PySem PySem.Spec PyProof.Rows CwR
section
variable {X : Cx} {o e f : Expr} {es : List Expr} {te to : TE} {ta : TA} {y z : Str} {j k n : Nat} {c0 c1 c2 apos pos : Pos}
def tRepl1 (to : TE) (y z : Str) : TE := fun σ H Q => to σ H fun v H1 => ∃ x, v = .str x ∧ (Builtin.Str.occurrences x y 0 x.length 1).isEmpty = false ∧ x.length + z.length ≤ 16777216 ∧ Q (.str (FX.replace1 x y z)) H1
set_option maxHeartbeats 400000 in
/-- o.replace('y', 'z', 1), where a token is out -/
theorem pet_repl1 (ho : PE X o to) (hyz : (y == z) = false := by decide +kernel) (hy : (y.length == 0) = false := by decide +kernel)
    (hst : starEach [.Constant (.str y) j c0, .Constant (.str z) k c1, .Constant (.int 1) n c2] X.env = [(false, eval (.Constant (.str y) j c0) X.env), (false, eval (.Constant (.str z) k c1) X.env), (false, eval (.Constant (.int 1) n c2) X.env)] := by rfl)
    (hbase : attributeBase o "replace" X.env (eval o X.env) = eval o X.env := by rfl) (hline : (apos.endLine == pos.line) = true := by rfl)
    (hfew : ((backTo pos (starEach [.Constant (.str y) j c0, .Constant (.str z) k c1, .Constant (.int 1) n c2] X.env)).all (fun x => !x.1) && (backToKw pos (keywordEach [] X.env)).all (fun x => x.1.isSome)
      && decide (([.Constant (.str y) j c0, .Constant (.str z) k c1, .Constant (.int 1) n c2] : List Expr).length + ([] : List Keyword).length + (if ([] : List Keyword).isEmpty then 0 else 1) < 30)) = true := by rfl) :
    PET X (.Call (.Attribute o "replace" apos) [.Constant (.str y) j c0, .Constant (.str z) k c1, .Constant (.int 1) n c2] [] pos) (tRepl1 to y z) := by
  intro pins s σ H Q h0 I h
  refine wpAny_Call_method_late hbase hfew hline rfl (wpAny_mono (PySem.wpAny_toks (ho.run pins s σ H _ I h)) (fun v s1 q => ?_) fun _ _ z => z.2)
  obtain ⟨hk, v', H1, I1, r1, x, rfl, hoc, hb, q⟩ := q
  obtain ⟨tx, rfl⟩ := r1
  rw [hst]
  refine ⟨"str", _, PySem.F.plainAttrs_str, PySem.F.slot_str_replace, PySem.F.type_str_replace, typeIs_str _ _ _, (fun _ e => nomatch e), Calls.callWith_builtin rfl (Calls.evalArgs_plain ?_)⟩
  show wpAny _ _ (spliced [(false, eval (.Constant (.str y) j c0) X.env), (false, eval (.Constant (.str z) k c1) X.env), (false, eval (.Constant (.int 1) n c2) X.env)]) _ _ _
  refine Calls.spliced_cons (Calls.Constant_str (Calls.spliced_cons (Calls.Constant_str (Calls.spliced_cons (wpAny_Constant_int (Calls.spliced_nil ?_))))))
  have hl : Builtin.Str.tooLong (x.length + (Builtin.Str.occurrences x y 0 x.length 1).length * z.length) = false := by
    have h1 := StrLaws.occ_length_le x y 0 x.length 1
    have h2 : (Builtin.Str.occurrences x y 0 x.length 1).length * z.length ≤ 1 * z.length := Nat.mul_le_mul_right _ h1
    unfold Builtin.Str.tooLong sizeLine
    have e : (2 : Nat) ^ 24 = 16777216 := by decide
    exact decide_eq_false (by omega)
  refine call_gives PySem.F.slot_str_replace (typeIs_str _ _ _) PySem.F.entry_str_replace (PySem.F.args_str_replace_4 _ _ _ _) (gives_str_replace1 x y z _ _ _ _ hoc hy ?_ ?_ hyz hl) ?_
  · have a1 : ¬ s1.toks = 0 := by omega
    have a2 : ¬ s1.toks + 1 = 0 := by omega
    simp [a1, a2]
  · simp
  · refine ⟨?_, .str (FX.replace1 x y z), H1, I1.tok _, ⟨_, rfl⟩, q⟩
    have h1 := StrLaws.occ_length_le x y 0 x.length 1
    have hy : (Builtin.Str.glued y (Builtin.Str.partsBetween x (Builtin.Str.occurrences x y 0 x.length 1) y.length)).length = x.length := by rw [StrLaws.glued_between_self]
    rw [size_glued, length_partsBetween, Nat.add_sub_cancel] at hy
    rw [size_glued, length_partsBetween, Nat.add_sub_cancel, sizeLine_eq]
    have h2 : (Builtin.Str.occurrences x y 0 x.length 1).length * z.length ≤ 1 * z.length := Nat.mul_le_mul_right _ h1
    omega
/-- behind it a token is out -/
def PE1 (X : Cx) (e : Expr) (t : TE) : Prop :=
  ∀ (pins : List (Addr × Obj)) (s : Shared) (σ : St) (H : Hp) (Q : VK), Inv X pins σ H s → t σ H Q → wpAny (model X.prog X.w) X.A (eval e X.env) (fun v s' => 1 ≤ s'.toks ∧ EP X pins σ Q v s') X.xe s
theorem pe1_op {op : Operator} {r : R2} {p : Pos} (ho : OpR X (binaryOp op) r) (ha : PE X e te) : PE1 X (.BinOp e op (.Constant (.str y) j p) pos) (tOp r te (tC (.str y))) := by
  intro pins s σ H Q I h
  refine wpAny_BinOp (thn (ha.run pins s σ H _ I h) fun v s1 ⟨x, H1, I1, r1, q1⟩ => ?_)
  refine Calls.Constant_str ?_
  refine wpAny_mono (PySem.wpAny_toks (ho pins { s1 with toks := s1.toks + 1 } σ H1 x (.str y) v (.str y s1.toks) Q (I1.tok _) r1 ⟨_, rfl⟩ q1)) (fun _ _ z => ⟨?_, z.2⟩) fun _ _ z => z.2
  exact Nat.le_trans (Nat.le_add_left 1 s1.toks) z.1
theorem pa_cons1 (ha : PE1 X e te) (hr : PAT X es ta) (hs : starEach (e :: es) X.env = (false, eval e X.env) :: starEach es X.env := by rfl) : PA X (e :: es) (tCons te ta) := by
  refine ⟨fun pos pins s σ H Q I h => ?_⟩
  rw [hs]
  show wpAny _ _ (spliced ((false, eval e X.env) :: backTo pos (starEach es X.env))) _ _ s
  refine Calls.spliced_cons (thn (ha pins s σ H _ I h) fun u s1 ⟨h1, x, H1, I1, r1, q1⟩ => ?_)
  exact thn (hr pos pins s1 σ H1 _ h1 I1 q1) fun us s2 ⟨xs, H2, I2, r2, q2⟩ => ⟨x :: xs, H2, I2, .cons r1 r2, q2⟩
theorem pat_consE (ha : PE X e te) (hr : PAT X es ta) (hs : starEach (e :: es) X.env = (false, eval e X.env) :: starEach es X.env := by rfl) : PAT X (e :: es) (tCons te ta) := by
  intro pos pins s σ H Q h0 I h
  rw [hs]
  show wpAny _ _ (spliced ((false, eval e X.env) :: backTo pos (starEach es X.env))) _ _ s
  refine Calls.spliced_cons (wpAny_mono (PySem.wpAny_toks (ha.run pins s σ H _ I h)) (fun u s1 q => ?_) fun _ _ z => z.2)
  obtain ⟨hk, x, H1, I1, r1, q1⟩ := q
  exact thn (hr pos pins s1 σ H1 _ (Nat.le_trans h0 hk) I1 q1) fun us s2 ⟨xs, H2, I2, r2, q2⟩ => ⟨x :: xs, H2, I2, .cons r1 r2, q2⟩
theorem pat_consT (ha : PET X e te) (hr : PA X es ta) (hs : starEach (e :: es) X.env = (false, eval e X.env) :: starEach es X.env := by rfl) : PAT X (e :: es) (tCons te ta) := by
  intro pos pins s σ H Q h0 I h
  rw [hs]
  show wpAny _ _ (spliced ((false, eval e X.env) :: backTo pos (starEach es X.env))) _ _ s
  refine Calls.spliced_cons (thn (ha pins s σ H _ h0 I h) fun u s1 ⟨x, H1, I1, r1, q1⟩ => ?_)
  exact thn (hr.run pos pins s1 σ H1 _ I1 q1) fun us s2 ⟨xs, H2, I2, r2, q2⟩ => ⟨x :: xs, H2, I2, .cons r1 r2, q2⟩
end
end L2

/-! a dict of the top: texts to tuples of texts; a head that tells of it and of the interpreter's statics -/
namespace L2
open PySem PySem.Spec PyProof.Rows
abbrev FTab := List (Str × List Str)
def formB (K : PySem.W.Frag) (d : Addr) (q : Str × List Str) : Bool := match PySem.W.nsIn K d q.1 with
  | some (some (.ref t)) => (match K.lookup t with
    | some ⟨.type c, _, .seq its _, _⟩ => decide (c = "tuple") && (decide (its.size ≤ sizeLine) && He.relAll (q.2.map V.str) its.toList)
    | _ => false)
  | _ => false
theorem formB_ok {K : PySem.W.Frag} {d : Addr} {q : Str × List Str} (h : formB K d q = true) : ∃ t, PySem.W.nsIn K d q.1 = some (some (.ref t)) ∧ ∀ H, SqT K H t (q.2.map V.str) := by
  unfold formB at h
  split at h
  · rename_i t e
    refine ⟨t, e, fun H => ?_⟩
    split at h
    · rename_i c od its n sl e2
      obtain ⟨h1, h2⟩ := He.ba h
      obtain ⟨h3, h4⟩ := He.ba h2
      exact .inr ⟨_, its, n, e2, congrArg Value.type (of_decide_eq_true h1), rfl, of_decide_eq_true h3, He.relAll_ok h4⟩
    · cases h
  · cases h
/-- the keys of the dict, in order, in this world -/
def FormsD (K : PySem.W.Frag) (w : World) (d : Addr) (ks : List Str) : Prop := He.dicW K d = some (He.keysIn w.params ks)
theorem FormsD.kd {K : PySem.W.Frag} {w : World} {d : Addr} {ks : List Str} (h : FormsD K w d ks) : ∃ es n, KDict K w d es n := He.dicW_ok h
theorem keys_find : ∀ {P : Params} {l : List DictEntry} {ks : List Str} {z : Str}, l.map He.keyOf = He.keysIn P ks → z ∉ ks → l.find? (·.key.isStr z) = none ∧ l.any (·.refKey) = false
  | _, [], _, _, _, _ => ⟨rfl, rfl⟩
  | _, e :: r, [], _, h, _ => by cases h
  | P, e :: r, k :: ks, z, h, hz => by
    have h1 : He.keyOf e :: r.map He.keyOf = some (k, PyData.keyHash P k) :: He.keysIn P ks := h
    injection h1 with h2 h3
    obtain ⟨i1, i2⟩ := keys_find h3 (fun q => hz (List.mem_cons_of_mem _ q))
    have hk : e.key.isStr z = false ∧ e.refKey = false := by
      unfold He.keyOf at h2
      split at h2
      · rename_i x t q
        obtain ⟨h5, _⟩ := Prod.mk.inj (Option.some.inj h2)
        have hx : x ≠ z := fun y => hz (by rw [← y, h5]; exact List.mem_cons_self)
        constructor
        · rw [q]
          simpa [Value.isStr] using hx
        · unfold DictEntry.refKey
          rw [q]
      · cases h2
    exact ⟨by rw [List.find?_cons, hk.1]; exact i1, by rw [List.any_cons, hk.2, i2]; rfl⟩
theorem FormsD.miss {K : PySem.W.Frag} {w : World} {d : Addr} {ks : List Str} {z : Str} (h : FormsD K w d ks) (hz : z ∉ ks) : PySem.W.nsIn K d z = some none := by
  obtain ⟨es, n, D⟩ := h.kd
  have h1 : He.dicW K d = some (es.toList.map He.keyOf) := by
    unfold He.dicW
    rw [D.at_]
    show (match decide ("dict" = "dict") && ((#[] : Array (Option Value)).isEmpty && !(d == sysModules)) with
      | true => some (es.toList.map He.keyOf)
      | false => none) = some (es.toList.map He.keyOf)
    rw [D.low]
    rfl
  obtain ⟨k1, k2⟩ := keys_find (Option.some.inj (h1.symm.trans h)) hz
  unfold PySem.W.nsIn
  rw [D.at_]
  show (match es.toList.find? (·.key.isStr z) with
    | some e => some (some e.val)
    | none => if es.toList.any (·.refKey) then none else some none) = some none
  rw [k1, k2]
  rfl
section
variable {X : Cx} {d : Addr} {ks : List Str}
def rNotF (d : Addr) (ks : List Str) : R2 := fun x y H Q => ∃ z : Str, x = .str z ∧ y = .ref d ∧ Q (.bl (!decide (z ∈ ks))) H
/-- z not in the dict -/
theorem op_notInF {ft : FTab} (D : FormsD X.K X.w d ks) (hf : ft.map (·.1) = ks) (hB : ft.all (formB X.K d) = true) : OpR X (compareOp .NotIn) (rNotF d ks) := by
  obtain ⟨es, n, D1⟩ := D.kd
  refine OpR.imp (op_notIn_kd D1) ?_
  rintro x y H Q ⟨z, rfl, rfl, q⟩
  by_cases hz : z ∈ ks
  · rw [← hf] at hz
    obtain ⟨p, hp, rfl⟩ := List.mem_map.mp hz
    obtain ⟨t, e, _⟩ := formB_ok (List.all_eq_true.mp hB p hp)
    rw [hf] at hz
    rw [decide_eq_true hz] at q
    exact ⟨_, _, rfl, rfl, e, q⟩
  · rw [decide_eq_false hz] at q
    exact ⟨_, _, rfl, rfl, D.miss hz, q⟩
def rIxF (K : PySem.W.Frag) (d : Addr) (ft : FTab) : R2 := fun x y H Q => ∃ (z : Str) (ys : List Str), x = .ref d ∧ y = .str z ∧ (z, ys) ∈ ft ∧ ∀ t, (∀ H', SqT K H' t (ys.map V.str)) → Q (.ref t) H
/-- the dict at a key that is there -/
theorem ix_forms {ft : FTab} (D : FormsD X.K X.w d ks) (hB : ft.all (formB X.K d) = true) : IxR X (rIxF X.K d ft) := by
  obtain ⟨es, n, D1⟩ := D.kd
  intro value slice pins s σ H x y v u Q I rx ry h hs
  obtain ⟨z, ys, rfl, rfl, hm, q⟩ := h
  obtain ⟨t, e, ht⟩ := formB_ok (List.all_eq_true.mp hB _ hm)
  exact ix_kdict value slice pins s σ H (.ref d) (.str z) v u Q I rx ry ⟨d, z, .ref t, rfl, rfl, ⟨es, n, .ref t, D1.at_, D1.lit, e, rfl⟩, q t ht⟩ hs
end
/-! ### the head -/
def obsW (n : Nat) (fa : List He.Fa) (fn : List He.DefD) (ts : List He.Tab) (ex : PySem.W.Frag → Bool) (g : Addr → Option Obj) : He.AlT × Bool := (He.obsT fa fn ts (partZ n g), ex (partZ n g))
def hookW (n : Nat) (fa : List He.Fa) (fn : List He.DefD) (ts : List He.Tab) (ex : PySem.W.Frag → Bool) : PySem.W.Hook where
  α := He.AlT × Bool
  obs := fun s => obsW n fa fn ts ex s.heap.get?
  val := fun w => (He.valT fn ts w, true)
  says := fun w h => ∃ K : PySem.W.Frag, K.In h ∧ He.SaysT fa fn ts w K ∧ ex K = true
  of := fun _ _ e => ⟨_, He.frG_in, congrArg Prod.fst e, congrArg Prod.snd e⟩
  keeps := fun _ _ _ ⟨K, hK, c⟩ k => ⟨K, PySem.W.Frag.In.keeps hK k, c⟩
theorem obsW_eq {n : Nat} {fa : List He.Fa} {fn : List He.DefD} {ts : List He.Tab} {ex : PySem.W.Frag → Bool} {g : Addr → Option Obj} {s : Shared} (h : ∀ a, g a = s.heap.get? a) : obsW n fa fn ts ex g = (hookW n fa fn ts ex).obs s := by
  have e : g = s.heap.get? := funext h
  rw [e]
  rfl
theorem forms_of {fa : List He.Fa} {fn : List He.DefD} {ts : List He.Tab} {w : World} {K : PySem.W.Frag} (c : He.SaysT fa fn ts w K) (i : Nat) {t : He.Tab} (h : ts[i]? = some t := by rfl) : FormsD K w (t.1 K) t.2 := by
  have e : ts.map (fun t => He.dicW K (t.1 K)) = ts.map fun t => some (He.keysIn w.params t.2) := congrArg (fun z : He.AlT => z.2) c
  have e2 : (ts.map fun t => He.dicW K (t.1 K))[i]? = (ts.map fun t => some (He.keysIn w.params t.2))[i]? := by rw [e]
  rw [List.getElem?_map, List.getElem?_map, h] at e2
  exact Option.some.inj e2
end L2

/-! loops and comprehensions over enumerate(list) and zip(list, list), the pair told by the heap behind (imports HandS.Walk) -/
namespace L2
open PySem PySem.Spec PyProof.Rows
section
variable {K : PySem.W.Frag} {a b : Addr} {xs ys : List V} {g : TG} {tt : TT} {tb : TS} {te : TE} {vs : List Nat} {σ : St} {H H1 : Hp} {D : Ends} {P : Addr} {Qd : Hp → Prop}
theorem for_enumK (Pv : Nat → St → Hp → Prop) (h0 : Pv 0 σ H) (hl : ∀ i σ H, i ≤ xs.length → Pv i σ H → SqL K H a xs)
    (hs : ∀ (i : Nat) (x : V) (T : Addr) (σ : St) (H H' : Hp), xs[i]? = some x → Pv i σ H → Fr H T → Same H H' → H' T = some (.tup [.int (i : Nat), x]) → g (.ref T) σ H' fun σ2 H2 => tb { D with nx := Pv (i + 1), ct := Pv (i + 1), bk := D.nx } σ2 H2)
    (hd : ∀ σ H, Pv xs.length σ H → D.nx σ H) :
    ∃ W : Nat → Nat → St → Hp → Prop, (∃ m, W 0 m σ H) ∧ ∀ i m σ H, W i m σ H →
      ((Ite K a).stop i H ∧ D.nx σ H) ∨ ((Ite K a).go i H ∧ ∃ N : St → Hp → Prop, (∀ σ' H', N σ' H' → ∃ m', m' < m ∧ W (i + 1) m' σ' H') ∧ ∀ x H', (Ite K a).yld i H x H' → g x σ H' fun σ2 H2 => tb { D with nx := N, ct := N, bk := D.nx } σ2 H2) :=
  for_it (walk_enum (xs := xs)) Pv h0 hl (fun i x σ H H' hi p y => by
    obtain ⟨T, u, v, rfl, hT, rfl, e1, e2⟩ := y
    obtain rfl := Option.some.inj e1
    exact hs i v T σ H _ e2 p hT ((Same.refl H).new hT) upd_same) hd
theorem for_zipK (hn : xs.length = ys.length) (Pv : Nat → St → Hp → Prop) (h0 : Pv 0 σ H) (hl : ∀ i σ H, i ≤ xs.length → Pv i σ H → SqL K H a xs ∧ SqL K H b ys)
    (hs : ∀ (i : Nat) (x y : V) (T : Addr) (σ : St) (H H' : Hp), xs[i]? = some x → ys[i]? = some y → Pv i σ H → Fr H T → Same H H' → H' T = some (.tup [x, y]) → g (.ref T) σ H' fun σ2 H2 => tb { D with nx := Pv (i + 1), ct := Pv (i + 1), bk := D.nx } σ2 H2)
    (hd : ∀ σ H, Pv xs.length σ H → D.nx σ H) :
    ∃ W : Nat → Nat → St → Hp → Prop, (∃ m, W 0 m σ H) ∧ ∀ i m σ H, W i m σ H →
      ((Itz K a b).stop i H ∧ D.nx σ H) ∨ ((Itz K a b).go i H ∧ ∃ N : St → Hp → Prop, (∀ σ' H', N σ' H' → ∃ m', m' < m ∧ W (i + 1) m' σ' H') ∧ ∀ x H', (Itz K a b).yld i H x H' → g x σ H' fun σ2 H2 => tb { D with nx := N, ct := N, bk := D.nx } σ2 H2) :=
  for_it (walk_zip (xs := xs) (ys := ys) (n := xs.length) (by omega)) Pv h0 hl (fun i x σ H H' hi p y => by
    obtain ⟨T, u, v, rfl, hT, rfl, e1, e2⟩ := y
    exact hs i u v T σ H _ e1 e2 p hT ((Same.refl H).new hT) upd_same) hd
theorem lcK_enum (hD : H1 P = none) (Pv : Nat → Hp → Prop) (h0 : ∀ H', Fr H1 P → Same H1 H' → H' P = some (.lst []) → Pv 0 H') (hl : ∀ i H, i ≤ xs.length → Pv i H → SqL K H a xs)
    (hs : ∀ (i : Nat) (x : V) (T : Addr) (H H' : Hp), xs[i]? = some x → Pv i H → Fr H T → Same H H' → H' T = some (.tup [.int (i : Nat), x]) → LcTurn σ vs g tt te P (.ref T) H' (Pv (i + 1))) (hd : ∀ H, Pv xs.length H → Qd H) :
    ∃ W : Nat → Nat → Hp → Prop, (∃ m, W 0 m (upd H1 P (.lst []))) ∧ ∀ i m H, W i m H →
      ((Ite K a).stop i H ∧ Qd H) ∨ ((Ite K a).go i H ∧ ∃ Nx : Hp → Prop, (∀ H', Nx H' → ∃ m', m' < m ∧ W (i + 1) m' H') ∧ ∀ x H', (Ite K a).yld i H x H' → upG g x (wipe σ vs) H' fun σ2 H2 => wipe σ2 vs = wipe σ vs ∧ upT tt σ2 H2 fun b H3 =>
        if b = true then upE te σ2 H3 fun y H4 => ∃ acc, H4 P = some (.lst acc) ∧ acc.length < sizeLine ∧ Nx (upd H4 P (.lst (acc ++ [y]))) else Nx H3) :=
  lc_it (g := upG g) (tt := upT tt) (te := upE te) (walk_enum (xs := xs)) Pv (h0 _ hD ((Same.refl H1).new hD) upd_same) hl (fun i x H H' hi p y => by
    obtain ⟨T, u, v, rfl, hT, rfl, e1, e2⟩ := y
    obtain rfl := Option.some.inj e1
    exact (hs i v T H _ e2 p hT ((Same.refl H).new hT) upd_same).out) hd
theorem lcK_zip (hn : xs.length = ys.length) (hD : H1 P = none) (Pv : Nat → Hp → Prop) (h0 : ∀ H', Fr H1 P → Same H1 H' → H' P = some (.lst []) → Pv 0 H') (hl : ∀ i H, i ≤ xs.length → Pv i H → SqL K H a xs ∧ SqL K H b ys)
    (hs : ∀ (i : Nat) (x y : V) (T : Addr) (H H' : Hp), xs[i]? = some x → ys[i]? = some y → Pv i H → Fr H T → Same H H' → H' T = some (.tup [x, y]) → LcTurn σ vs g tt te P (.ref T) H' (Pv (i + 1))) (hd : ∀ H, Pv xs.length H → Qd H) :
    ∃ W : Nat → Nat → Hp → Prop, (∃ m, W 0 m (upd H1 P (.lst []))) ∧ ∀ i m H, W i m H →
      ((Itz K a b).stop i H ∧ Qd H) ∨ ((Itz K a b).go i H ∧ ∃ Nx : Hp → Prop, (∀ H', Nx H' → ∃ m', m' < m ∧ W (i + 1) m' H') ∧ ∀ x H', (Itz K a b).yld i H x H' → upG g x (wipe σ vs) H' fun σ2 H2 => wipe σ2 vs = wipe σ vs ∧ upT tt σ2 H2 fun b H3 =>
        if b = true then upE te σ2 H3 fun y H4 => ∃ acc, H4 P = some (.lst acc) ∧ acc.length < sizeLine ∧ Nx (upd H4 P (.lst (acc ++ [y]))) else Nx H3) :=
  lc_it (g := upG g) (tt := upT tt) (te := upE te) (walk_zip (xs := xs) (ys := ys) (n := xs.length) (by omega)) Pv (h0 _ hD ((Same.refl H1).new hD) upd_same) hl (fun i x H H' hi p y => by
    obtain ⟨T, u, v, rfl, hT, rfl, e1, e2⟩ := y
    exact (hs i u v T H _ e1 e2 p hT ((Same.refl H).new hT) upd_same).out) hd
end
theorem cut_to {xs : List V} {k : Nat} : cutV xs (some (k : Int)) (some (xs.length : Int)) = xs.drop k := by
  unfold cutV
  rw [HT.sIx_nat, HT.sIx_nat, Nat.min_self]
  rcases Nat.le_total k xs.length with h | h
  · rw [Nat.min_eq_left h, List.take_of_length_le (by rw [List.length_drop]; omega)]
  · rw [Nat.min_eq_right h, List.drop_eq_nil_of_le (Nat.le_refl _), List.drop_eq_nil_of_le h, List.take_nil]
end L2

/-! a comprehension whose element may raise (imports: KE.GoesComp, KE.KAsSuite, HandS.Comp, HandS.Exc) -/
namespace LcE
open PySem PySem.Spec PyProof.Rows L2
section
variable {M : Model} {A : Around} {E1 : Value → Shared → Prop} {env : Env} {l : List Env} {L x : Addr} {B : Heap} {Z : Obj → Prop} {s : Shared}
/-- noted already: it goes on in the def's own frame -/
theorem pass_up {what : String} {Q : Value → Shared → Prop} (fr : env.frame = some L) (hd : HandSPX.HeldZ B l x Z L s.heap)
    (q : ∀ g, HandSPX.HeldZ B l x Z L g → s.heap.UpToSlots g → E1 (.ref x) { s with heap := g }) : wpAny M A (PySem.passOn what (.ref x) env : Sem Value) Q E1 s := by
  obtain ⟨k1, k2, k3, k4⟩ := hd
  obtain ⟨oe, vs, T, oT, ts, he, hz, hv, ha, hb, hc, hT, hw, hf⟩ := id k4
  unfold PySem.passOn
  refine wpAny_bind (wpAny_field he hv ha ?_)
  rw [if_neg (show ¬ ((Value.ref T == Value.none) = true) from fun z => by cases z)]
  refine wpAny_bind (HandSPX.setFlight_anyZ (fr := env.frame) k1 k3 k4 fun g g1 g2 g3 g4 => ?_)
  rw [fr] at g3
  exact wpAny_throw (q g ⟨g1, k2, g2, g3⟩ g4)
end
theorem hid {B : Heap} {C : Addr} : (PySem.W.hideAll B [C]).get? C = none := PySem.W.hideAll_none [C] (.head _)
theorem hid_none {B : Heap} {C b : Addr} (h : B.get? b = none) : (PySem.W.hideAll B [C]).get? b = none := by
  cases q : (PySem.W.hideAll B [C]).get? b with
  | none => rfl
  | some u =>
    have z := PySem.W.of_hideAll _ q
    rw [h] at z
    cases z
theorem hid_some {B : Heap} {C b : Addr} {u : Obj} (h : (PySem.W.hideAll B [C]).get? b = some u) : b ≠ C ∧ B.get? b = some u := by
  refine ⟨fun z => ?_, PySem.W.of_hideAll _ h⟩
  rw [z, hid] at h
  cases h
theorem hid_keep {B : Heap} {C b : Addr} {u : Obj} (n : b ≠ C) (h : B.get? b = some u) : (PySem.W.hideAll B [C]).get? b = some u := PySem.W.hideAll_get [C] h fun z => n (List.mem_singleton.mp z)
theorem frames_hid {B h : Heap} {C : Addr} : ∀ {l : List Env}, h.FunFrames B l → h.FunFrames (PySem.W.hideAll B [C]) l
  | [], _ => trivial
  | _ :: _, ⟨hk, ⟨L, o, e1, e2, e3, e4⟩, hr⟩ => ⟨hk, ⟨L, o, e1, hid_none e2, e3, e4⟩, frames_hid hr⟩
section
variable {X : Cx} {W : WX} {E : XK} {pins : List (Addr × Obj)} {σ : L2.St} {H : Hp} {s s1 : Shared} {C : Addr} {m : Str → Option Value} {ce : Env} {u : Value}
/-- what a callee lets out within a comprehension's block goes on out of the comprehension -/
theorem air_block (tk : Takes X W) (hW : ∀ cls d H', E cls d H' → W cls d σ H') (hst : X.stack = X.env :: X.outer) (hfr : X.env.frame = some X.env.locals) (I : Inv X pins σ H s) (hC : s.heap.Ns C m) (fp : FpOk X pins H C)
    (e1 : ce.frame = X.env.frame) (e2 : ce.locals = C) (c : CX X.prog X.w X.stack H s E u s1) : notedBy (model X.prog X.w) X.A ce (CompFails (model X.prog X.w) X.A X.xe ce) u s1 := by
  obtain ⟨x, B, H', cls, d, rfl, fl, hok, ub, na, os, ag, hE⟩ := c
  obtain ⟨f0, f1, f2, f3, f4, f5⟩ := fp
  obtain ⟨o, es, ep, ho, hdat, hrest⟩ := id hC
  have hCs : C ∉ frs X.stack := fun z => by
    rw [hst] at z
    obtain ⟨en, hen, q⟩ := List.mem_filterMap.mp z
    rcases List.mem_cons.mp hen with rfl | hen
    · rw [hfr] at q
      exact f1 (Option.some.inj q).symm
    · exact f2 (List.mem_filterMap.mpr ⟨en, hen, q⟩)
  have cB := ub.keep C o ho f0 hCs
  have hC' : H' C = none := ub.free C o ho f0
  have ns1 : s1.heap.Ns C m := ⟨o, es, ep, fl.1 C o cB, hdat, hrest⟩
  have hn : noteFrame (.ref x) ce = noteFrame (.ref x) X.env := by
    unfold noteFrame PySem.frameOf
    rw [e1]
  show wpAny _ _ (noteFrame (.ref x) ce) _ _ _
  rw [hn]
  rw [hst] at fl
  refine HandSPX.looks_onZ Zc.steady (by rw [I.ok.frames, hst]) hfr fl fun h1 held up1 => ?_
  refine ⟨m, by rw [e2]; exact up1.ns ns1, fun h2 m2 hn2 sb => ?_⟩
  rw [e2] at hn2 sb
  have nsC := up1.ns ns1
  obtain ⟨t1, t2, t3, t4⟩ := held
  have held2 : HandSPX.HeldZ (PySem.W.hideAll B [C]) (X.env :: X.outer) x (Zc cls d) X.env.locals h2 := by
    refine ⟨fun b v e => ?_, hid_none t2, frames_hid (Heap.FunFrames.sameBut sb hn2 t3), ?_⟩
    · obtain ⟨nb, e⟩ := hid_some e
      rw [sb.2 b nb]
      exact t1 b v e
    · obtain ⟨oe, vs, T, oT, ts, a1, a2, a3, a4, a5, a6, a7, a8, a9⟩ := t4
      obtain ⟨oc, esc, epc, b1, b2, _⟩ := nsC
      have nx : x ≠ C := fun z => by
        rw [z, b1] at a1
        cases a1
        rw [b2] at a3
        cases a3
      have nT : T ≠ C := fun z => by
        rw [z, b1] at a7
        cases a7
        rw [b2] at a8
        cases a8
      exact ⟨oe, vs, T, oT, ts, (sb.2 x nx).trans a1, a2, a3, a4, hid_none a5, a6, (sb.2 T nT).trans a7, a8, a9⟩
  refine pass_up (e1.trans hfr) held2 fun h3 held3 up3 => tk _ _ ?_
  rw [← hst] at fl
  obtain ⟨G, g1, g2⟩ := restrict s1.heap fun b => (B.get? b).isSome || decide (b ∈ frs X.stack)
  have fromB : ∀ b v, B.get? b = some v → G.get? b = some v := fun b v e => (g1 b (by rw [e]; rfl)).trans (fl.1 b v e)
  have atF : ∀ b, b ∈ frs X.stack → G.get? b = s1.heap.get? b := fun b hb => g1 b (by rw [decide_eq_true hb, Bool.or_true])
  have ofG : ∀ b v, G.get? b = some v → s1.heap.get? b = some v ∧ (b ∉ frs X.stack → B.get? b = some v) := fun b v e => by
    cases q : ((B.get? b).isSome || decide (b ∈ frs X.stack)) with
    | false =>
      rw [g2 b q] at e
      cases e
    | true =>
      rw [g1 b q] at e
      refine ⟨e, fun nb => ?_⟩
      rw [decide_eq_false nb, Bool.or_false] at q
      obtain ⟨w, hw⟩ := Option.isSome_iff_exists.mp q
      rw [fl.1 b w hw] at e
      rw [hw, e]
  have I0 : Inv X pins σ H' { s with heap := G, gens := s1.gens, drawn := s1.drawn, toks := s1.toks } := by
    refine I.call (ch := []) ⟨fun b v e n nb _ => fromB b v (ub.keep b v e n nb), fun b v e n nb _ => ?_, fun b v e n _ => ub.free b v e n, fun b v e _ => ?_, ub.tups, ub.frzs, ub.tbls⟩ (hok.kept fromB) ag fun _ z => nomatch z
    · obtain ⟨sl, q⟩ := ub.slot b v e nb
      exact ⟨sl, (atF b nb).trans q⟩
    · by_cases nb : b ∈ frs X.stack
      · obtain ⟨sl, q⟩ := ub.slot b v e nb
        exact ⟨_, (atF b nb).trans q⟩
      · obtain ⟨v', q⟩ := ub.there b v e nb
        exact ⟨v', fromB b v' q⟩
  have I1 := I0.turned (t' := s1.toks) (it := C) (h' := PySem.W.hideAll G [C]) (fun b v nb e => hid_keep nb e) hC' f1 f3 f4 f5
  rw [← hst] at held3
  refine ⟨x, PySem.W.hideAll B [C], _, pins, σ, H', cls, d, rfl, I1, fun b v e nb => ?_, fun b v e nf => ?_, .inr (.inr held3), na, os, ag, hW _ _ _ hE⟩
  · obtain ⟨nC, e⟩ := hid_some e
    exact hid_keep nC ((ofG b v e).2 nb)
  · obtain ⟨nC, e⟩ := hid_some e
    obtain ⟨sl, q⟩ := up1 b v (ofG b v e).1 nf
    have q2 := (sb.2 b nC).trans q
    obtain ⟨sl2, q3⟩ := up3 b _ q2 nf
    exact ⟨sl2, q3⟩
end
section
variable {X : Cx} {W : WX} {E : XK}
/-- the comprehension as a value; E: what its element may let out -/
theorem lcE_run {pins : List (Addr × Obj)} {s : Shared} {σ : L2.St} {H : Hp} {Q : VK} {elt tg iter : Expr} {ifs : List Expr} {scope : Scope} {own : List (Str × Nat)} {pos pos' : Pos} {wi : TI} {g : TG} {tt : TT} {te : TE}
    (tk : Takes X W) (hW : ∀ cls d σ H', E cls d H' → W cls d σ H') (hst : X.stack = X.env :: X.outer) (hfr : X.env.frame = some X.env.locals)
    (calm : X.calm = true) (nd : X.N.Nodup) (I : Inv X pins σ H s) (pi : PI X tg iter wi) (blk : BlkOk X.N X.env.scope scope own)
    (pg : ∀ (s : Shared) (H : Hp) (C : Addr) (cl : List (Str × Addr)) (fp : List Addr), PG (X.blk s H scope (compEnvC scope cl C X.env) fp) tg g) (pt : ∀ (s : Shared) (H : Hp) (C : Addr) (cl : List (Str × Addr)) (fp : List Addr), PTs (X.blk s H scope (compEnvC scope cl C X.env) fp) ifs tt)
    (pe : ∀ (s : Shared) (H : Hp) (C : Addr) (cl : List (Str × Addr)) (fp : List Addr) (pn : List (Addr × Obj)) (xe : Value → Shared → Prop), Passes (L2.CX X.prog X.w) ((X.blk s H scope (compEnvC scope cl C X.env) fp).tr pn xe) E → PE ((X.blk s H scope (compEnvC scope cl C X.env) fp).tr pn xe) elt te)
    (fold : ∀ x, foldedSetIterable iter X.env x = pure x) (h : tLc wi g tt te (own.map (·.2)) σ H Q) :
    wpAny (model X.prog X.w) X.A (comprehension (.ListComp elt [⟨tg, iter, ifs, 0⟩] scope pos) scope X.env pos' (newList []) false (eval iter X.env) none) (EP X pins σ Q) X.xe s := by
  have caught : ∀ y ∈ scope.names, y.2 = .free → ∃ c, X.env.cells.lookup y.1 = some c := fun y hy e => (blk.free y hy e).elim (fun k => I.ok.has _ (.inl k)) fun k => I.ok.has _ (.inr k)
  refine comprehension_at (use := none) rfl fold (closure_ok caught) blk.kind (fun y hy e => (blk.uniq y hy).trans (by rw [e])) (thn (pi.run pins s σ H _ I h) fun v0 s1 hv0 => thn hv0 fun v1 s2 hv1 => ?_)
  obtain ⟨it, fp, tn, J, H2, rfl, I2, T, st2, f2, q⟩ := hv1
  refine wpAny_newObj_type (newEnv_comp ?_) (by show 0 ≤ sizeLine; decide)
  generalize eD : s2.heap.objs.size = D
  have freeD : H2 D = none := I2.hok.fresh (Nat.le_of_eq eD)
  obtain ⟨W0, ⟨m0, w0⟩, turn⟩ := q D freeD
  generalize e3 : ({ s2 with heap := s2.heap.push { cls := .type "list", data := .seq ([] : List Value).toArray } } : Shared) = s3
  have I3 : Inv X pins σ (upd H2 D (.lst [])) s3 := by
    subst e3
    refine I2.laid (t' := s2.toks) (fun b v e => Heap.get?_push_of_some _ e) (Nat.le_of_eq eD) ⟨Nat.zero_le _, [], 0, .nil, ?_⟩
    subst eD
    exact Heap.get?_push_size _ rfl
  have hp3 : s3.heap = s2.heap.push { cls := .type "list", data := .seq ([] : List Value).toArray } := by rw [← e3]
  have small : ∀ b ∈ fp, b < s2.heap.objs.size := fun b hb => (T.obj _ _ st2 b hb).elim fun v e => Heap.lt_size e.1
  have f3 : ∀ b ∈ fp, FpOk X pins (upd H2 D (.lst [])) b ∧ b < s3.heap.objs.size := fun b hb => by
    have lt := small b hb
    have fr := f2 b hb
    refine ⟨⟨?_, fr.2⟩, by rw [hp3, Heap.size_push]; exact Nat.lt_succ_of_lt lt⟩
    rw [upd_ne fun z => absurd lt (by rw [z, eD]; exact Nat.lt_irrefl _)]
    exact fr.1
  have st3 : tn 0 s3.heap := T.keep _ _ _ st2 fun b _ v e => by rw [hp3]; exact Heap.get?_push_of_some _ e
  have I4 := block_start I3 blk nd f3
  have g0 := pg s3 (upd H2 D (.lst [])) s3.heap.objs.size (cellsFrom (s3.heap.objs.size + 1) scope.names (cloFrom X.env.cells scope.names [])) fp
  have t0 := pt s3 (upd H2 D (.lst [])) s3.heap.objs.size (cellsFrom (s3.heap.objs.size + 1) scope.names (cloFrom X.env.cells scope.names [])) fp
  have p0 := pe s3 (upd H2 D (.lst [])) s3.heap.objs.size (cellsFrom (s3.heap.objs.size + 1) scope.names (cloFrom X.env.cells scope.names [])) fp
  have cF : (compEnvC scope (cellsFrom (s3.heap.objs.size + 1) scope.names (cloFrom X.env.cells scope.names [])) s3.heap.objs.size X.env).frame = X.env.frame := rfl
  have cL : (compEnvC scope (cellsFrom (s3.heap.objs.size + 1) scope.names (cloFrom X.env.cells scope.names [])) s3.heap.objs.size X.env).locals = s3.heap.objs.size := rfl
  have none3 : ∀ b ∈ fp, (upd H2 D (.lst [])) b = none := fun b hb => (f3 b hb).1.1
  show codeAny _ _ (.compStart (.ListComp elt [⟨tg, iter, ifs, 0⟩] scope pos) 0 (.ref it) (.ref D) (compEnvC scope (cellsFrom (s3.heap.objs.size + 1) scope.names (cloFrom X.env.cells scope.names [])) s3.heap.objs.size X.env))
    (compEnds (model X.prog X.w) X.A X.xe none (EP X pins σ Q) (.ref D) (compEnvC scope (cellsFrom (s3.heap.objs.size + 1) scope.names (cloFrom X.env.cells scope.names [])) s3.heap.objs.size X.env)) { s3 with heap := pushCells (s3.heap.push { cls := .type "dict", data := .dict #[] }) scope.names }
  generalize compEnvC scope (cellsFrom (s3.heap.objs.size + 1) scope.names (cloFrom X.env.cells scope.names [])) s3.heap.objs.size X.env = ce at I4 g0 t0 p0 cF cL ⊢
  generalize upd H2 D (.lst []) = H3 at I3 I4 g0 t0 p0 w0 none3 f3
  generalize e4 : ({ s3 with heap := pushCells (s3.heap.push { cls := .type "dict", data := .dict #[] }) scope.names } : Shared) = s4 at I4 ⊢
  have st4 : tn 0 s4.heap := T.keep _ _ _ st3 fun b _ v e => by rw [← e4]; exact pushCells_keeps _ _ _ _ (Heap.get?_push_of_some _ e)
  -- a state of the block is a state of the def
  have back : ∀ {pl : List (Addr × Obj)} {σ' : L2.St} {H' : Hp} {s' : Shared}, Inv (X.blk s3 H3 scope ce fp) pl σ' H' s' → Inv X pins σ H' s' ∧ (∃ m, s'.heap.Ns ce.locals m) ∧ FpOk X pins H' ce.locals := fun {pl σ' H' s'} J' => by
    have nC : H' ce.locals = none := J'.free
    refine ⟨I3.call' (ch := fp) J'.os J'.base J'.hok J'.bare fun b hb => ⟨(f3 b hb).1.2.2.2.1, (f3 b hb).1.2.1, (f3 b hb).1.2.2.2.2.1, (f3 b hb).1.2.2.2.2.2⟩, J'.loc.elim fun m hm => ⟨m, hm.1⟩, ?_⟩
    rw [cL] at nC ⊢
    exact I3.fpOk (Nat.le_refl _) nC
  have stat : ∀ {σ' : L2.St} {H' : Hp} {s' : Shared}, Inv (X.blk s3 H3 scope ce fp) [] σ' H' s' → (∀ b ∈ fp, H' b = none) → ∀ b ∈ fp, FpOk (X.blk s3 H3 scope ce fp) [] H' b := fun {σ' H' s'} J' hn b hb =>
    ⟨hn b hb, (J'.ok.exf b hb).1, J'.ok.exfs b hb, .inl hb, fun y c e => (J'.ok.exf b hb).2 y c e, fun p hp => absurd (show p ∈ ([] : List (Addr × Obj)) ++ [] from hp) (by simp)⟩
  have loop : codeAny (model X.prog X.w) X.A (.compLoop (.ListComp elt [⟨tg, iter, ifs, 0⟩] scope pos) 0 (.ref it) (.ref D) ce) (compEnds (model X.prog X.w) X.A X.xe none (EP X pins σ Q) (.ref D) ce) s4 := by
    refine compLoop_any (fun n s' => ∃ i H', Inv (X.blk s3 H3 scope ce fp) [] (wipe σ (own.map (·.2))) H' s' ∧ tn i s'.heap ∧ (∀ b ∈ fp, H' b = none) ∧ W0 i n H') ?_ m0 ⟨0, H3, I4, st4, none3, w0⟩
    rintro n s5 ⟨i, H5, I5, st5, n5, w5⟩
    rcases turn i n H5 w5 with ⟨stop, fin⟩ | ⟨go, Nx, hNx, step⟩
    · have td := T.done (X.blk s3 H3 scope ce fp) rfl rfl rfl calm i [] s5 _ H5 (fun _ _ => False) I5 (stat I5 n5) st5 stop
      refine thnF td fun r s6 ⟨er, I6⟩ => ?_
      subst er
      obtain ⟨I7, ⟨m, hm⟩, ff⟩ := back I6
      obtain ⟨k0, k1, k2, k3, k4, k5⟩ := ff
      exact ⟨m, hm, fun hh sb => ⟨.ref D, H5, I7.turned (t' := s6.toks) (fun b v nb e => (sb.2 b nb).trans e) k0 k1 k3 k4 k5, rfl, fin⟩⟩
    · have ti := T.item (X.blk s3 H3 scope ce fp) rfl rfl rfl calm i [] s5 _ H5 (fun _ _ => False) I5 (stat I5 n5) st5 go
      refine thnF ti fun r s6 ⟨u, er, h6⟩ => ?_
      subst er
      refine thnF h6 fun _ s7 ⟨x, H7, I7, r7, y7, st7, n7⟩ => ?_
      have J7 := I7.pinned (stat I7 n7) (T.obj _ _ st7)
      refine thnF (g0.run _ s7 _ H7 x u _ J7 r7 (step x H7 y7)) fun _ s8 ⟨σ8, H8, I8, wip, q8⟩ => ?_
      refine thnF (t0.run _ s8 σ8 H8 _ I8 q8) fun b s9 ⟨H9, I9, q9⟩ => ?_
      have fin : ∀ {s' : Shared} {H' : Hp}, Inv (X.blk s3 H3 scope ce fp) ([] ++ pinsAt fp s7.heap) σ8 H' s' → Nx H' → ∃ m, m < n ∧ ∃ i H', Inv (X.blk s3 H3 scope ce fp) [] (wipe σ (own.map (·.2))) H' s' ∧ tn i s'.heap ∧ (∀ b ∈ fp, H' b = none) ∧ W0 i m H' := fun {s' H'} J' nx => by
        obtain ⟨m', lt, w'⟩ := hNx H' nx
        have kept : ∀ b ∈ fp, ∀ v, s7.heap.get? b = some v → s'.heap.get? b = some v ∧ H' b = none := fun b hb v e =>
          have z := J'.pin (b, v) (List.mem_append_right _ (List.mem_append_right _ (mem_pinsAt hb e)))
          ⟨z.1, z.2.1⟩
        have len : (wipe σ (own.map (·.2))).length = σ8.length := by rw [← wip, wipe_length]
        refine ⟨m', lt, i + 1, H', (J'.unpinned (pins := [])).weak len (fun j v e => ?_), T.keep _ _ _ st7 fun b hb v e => (kept b hb v e).1, fun b hb => ?_, w'⟩
        · rw [← wip] at e
          exact (wipe_some e).1
        · obtain ⟨v, e, _⟩ := T.obj _ _ st7 b hb
          exact (kept b hb v e).2
      cases b with
      | false =>
        rw [if_neg Bool.false_ne_true] at q9 ⊢
        exact fin I9 q9
      | true =>
        rw [if_pos rfl] at q9 ⊢
        have px : Passes (L2.CX X.prog X.w) ((X.blk s3 H3 scope ce fp).tr ((X.blk s3 H3 scope ce fp).pn ++ ([] ++ pinsAt fp s7.heap)) (notedBy (model X.prog X.w) X.A ce (CompFails (model X.prog X.w) X.A X.xe ce))) E := fun pl σ' H' s' e s'' J' c => by
          obtain ⟨K1, ⟨m, hm⟩, ff⟩ := back (J'.ofTry I9.ok)
          exact air_block tk (fun cls d H' x => hW cls d σ H' x) hst hfr K1 hm ff cF rfl c
        refine wpAny_mono ((p0 _ _ px).run [] s9 σ8 H9 _ (I9.toTry _) q9) (fun z s10 hz => ?_) fun e s' x => x
        obtain ⟨yv, H10, I10, r10, acc, a1, a2, nx⟩ := hz
        exact app_ok (X := X.blk s3 H3 scope ce fp) (I10.ofTry I9.ok) a1 a2 r10 fun s11 I11 => fin I11 nx
  exact codeAny_compStart_list loop (T.self X.A 0 _ _ _ st4 loop)
theorem pe_lcE {elt tg iter : Expr} {ifs : List Expr} {scope : Scope} {own : List (Str × Nat)} {pos : Pos} {wi : TI} {g : TG} {tt : TT} {te : TE}
    (tk : Takes X W) (hW : ∀ cls d σ H', E cls d H' → W cls d σ H') (hst : X.stack = X.env :: X.outer) (hfr : X.env.frame = some X.env.locals)
    (calm : X.calm = true) (nd : X.N.Nodup) (pi : PI X tg iter wi) (blk : BlkOk X.N X.env.scope scope own)
    (pg : ∀ (s : Shared) (H : Hp) (C : Addr) (cl : List (Str × Addr)) (fp : List Addr), PG (X.blk s H scope (compEnvC scope cl C X.env) fp) tg g) (pt : ∀ (s : Shared) (H : Hp) (C : Addr) (cl : List (Str × Addr)) (fp : List Addr), PTs (X.blk s H scope (compEnvC scope cl C X.env) fp) ifs tt)
    (pe : ∀ (s : Shared) (H : Hp) (C : Addr) (cl : List (Str × Addr)) (fp : List Addr) (pn : List (Addr × Obj)) (xe : Value → Shared → Prop), Passes (L2.CX X.prog X.w) ((X.blk s H scope (compEnvC scope cl C X.env) fp).tr pn xe) E → PE ((X.blk s H scope (compEnvC scope cl C X.env) fp).tr pn xe) elt te)
    (fold : ∀ x, foldedSetIterable iter X.env x = pure x := by intro _; rfl) : PE X (.ListComp elt [⟨tg, iter, ifs, 0⟩] scope pos) (tLc wi g tt te (own.map (·.2))) := by
  refine ⟨fun pins s σ H Q I h => ?_⟩
  rw [eval_ListComp]
  exact lcE_run tk hW hst hfr calm nd I pi blk pg pt pe fold h
end
end LcE

/-! dicts with tuple keys: values() and items() walked, dict(d) and update of at most one key, a display of one key, pop, == of them (imports: HandS.Walk, HandS.DictTup, HandS.TupLen, HandS.Conv, KE.KDictWalk, KE.KDictCopyH, KE.KDictDisplayH) -/
namespace L2
open PySem PySem.Spec PyProof.Rows
section
variable {X : Cx} {pins : List (Addr × Obj)} {σ : St} {H : Hp} {s : Shared} {d : Addr} {o : Obj}
/-- the entries of a locked dict with tuple keys -/
theorem Inv.rawT {kvs : List (List Key × V)} (I : Inv X pins σ H s) (h : H d = some (.frz o (.dT kvs))) :
    (d == sysModules) = false ∧ ∃ (es : Array DictEntry) (ep : Nat), o.data = .dict es ep ∧ s.heap.DictRaw d es ep ∧ es.size = kvs.length ∧
      ∀ (i : Nat) (k : List Key) (v : V), kvs[i]? = some (k, v) → ∃ hi : i < es.size, ∃ q : Addr, es[i].key = .ref q ∧ H q = some (.tup (k.map kV)) ∧ RelV v es[i].val := by
  have x := I.hok d _ h
  obtain ⟨hd, z, hs, xs, pr, o', es, ep, ho, hx, hdt, he, hrest⟩ := x
  obtain rfl : o' = o := Option.some.inj (ho.symm.trans hd)
  have l1 : es.size = xs.length := size_of_entries he
  have l2 : kvs.length = xs.length := Paired.length pr
  refine ⟨hs, es, ep, hdt, ⟨o', hd, hx, hdt⟩, by omega, fun i k v e => ?_⟩
  obtain ⟨b, hb, e1, e2, e3⟩ := paired_get pr e
  have hi : i < es.size := by
    have := (List.getElem?_eq_some_iff.mp e).1
    omega
  have q := entry_at he i
  rw [hb, Array.getElem?_eq_getElem hi] at q
  have q2 : es[i] = _ := Option.some.inj q
  exact ⟨hi, b.2.1, by rw [q2]; rfl, e2, by rw [q2]; exact e3⟩
end
/-- the values, keys tuples -/
def ItdT (d : Addr) (o : Obj) (kvs : List (List Key × V)) : It :=
  ⟨fun i H => i < kvs.length ∧ H d = some (.frz o (.dT kvs)), fun i H x H' => (∃ k, kvs[i]? = some (k, x)) ∧ H' = H, fun i H => kvs.length ≤ i ∧ H d = some (.frz o (.dT kvs))⟩
/-- the pairs, keys tuples, each a new tuple -/
def ItiT (d : Addr) (o : Obj) (kvs : List (List Key × V)) : It :=
  ⟨fun i H => i < kvs.length ∧ H d = some (.frz o (.dT kvs)), fun i H x H' => ∃ (T : Addr) (k : List Key) (v : V) (q : Addr), kvs[i]? = some (k, v) ∧ x = .ref T ∧ H q = some (.tup (k.map kV)) ∧ H T = none ∧ H' = upd H T (.tup [.ref q, v]), fun i H => kvs.length ≤ i ∧ H d = some (.frz o (.dT kvs))⟩
section
variable {P : Program} {w : World} {K : PySem.W.Frag} {tg : Expr} {d : Addr} {o : Obj} {es : Array DictEntry} {ep : Nat}
theorem turn_valsT {kvs : List (List Key × V)} (it : Addr) (hod : o.data = .dict es ep) : Turn P w K tg (ItdT d o kvs) [it] it (fun i h => h.IsValIter it d i kvs.length ep) := by
  refine ⟨List.mem_singleton.mpr rfl, ?_, ?_, ?_, ?_, fun A i s Q E st q => wpAny_pyIter_valiter st q⟩
  · intro i h st b hb
    rw [List.mem_singleton.mp hb]
    obtain ⟨u, hu, _, du⟩ := st
    exact ⟨u, hu, fun v z => by rw [du] at z; cases z⟩
  · intro i h h' st k
    exact st.at fun u hu => k it (List.mem_singleton.mpr rfl) u hu
  · intro X eP ew eK hc i pins s σ H E I hf st hg
    subst eP ew eK
    obtain ⟨f0, f1, f2, f3, f4, f5⟩ := hf it (List.mem_singleton.mpr rfl)
    obtain ⟨hsm, es2, ep2, hdt, raw, hsz, ent⟩ := I.rawT hg.2
    obtain ⟨rfl, rfl⟩ := dict_ep hod hdt
    obtain ⟨kv, hkv⟩ : ∃ p, kvs[i]? = some p := ⟨_, List.getElem?_eq_getElem hg.1⟩
    obtain ⟨hi, q, _, _, ru⟩ := ent i kv.1 kv.2 hkv
    rw [← hsz] at st
    refine wpAny_pyNext_values_item_raw st raw hi fun h' st2 sb => ?_
    have J : Inv X pins σ H { s with heap := h' } := I.turned (t' := s.toks) (fun b u nb e => (sb.2 b nb).trans e) f0 f1 f3 f4 f5
    rw [hsz] at st2
    obtain ⟨u, hu, cu, du⟩ := id st2
    exact ⟨_, rfl, go_of (s := { s with heap := h' }) hu cu du (by decide) ⟨kv.2, H, J, ru, ⟨⟨kv.1, hkv⟩, rfl⟩, st2, fun b hb => (hf b hb).1⟩⟩
  · intro X eP ew eK hc i pins s σ H E I hf st hg
    subst eP ew eK
    obtain ⟨f0, f1, f2, f3, f4, f5⟩ := hf it (List.mem_singleton.mpr rfl)
    obtain ⟨hsm, es2, ep2, hdt, raw, hsz, ent⟩ := I.rawT hg.2
    obtain ⟨rfl, rfl⟩ := dict_ep hod hdt
    rw [← hsz] at st
    exact wpAny_pyNext_values_end_raw (I.ok.hd hc) st raw (by rw [hsz]; exact hg.1) fun h' eb => ⟨rfl, I.turned (t' := s.toks) (fun b u nb e => eb b u nb e) f0 f1 f3 f4 f5⟩
theorem turn_itemsT {kvs : List (List Key × V)} {elts : List Expr} {kk : Nat} {tpos : Pos} (it : Addr) (hod : o.data = .dict es ep) :
    Turn P w K (.Tuple elts kk tpos) (ItiT d o kvs) [it] it (fun i h => ∃ ok ov, IsItemIter h it d i kvs.length ep ok ov) := by
  refine ⟨List.mem_singleton.mpr rfl, ?_, ?_, ?_, ?_, fun A i s Q E ⟨_, _, st⟩ q => PySem.W.kcp_self st q⟩
  · rintro i h ⟨ok, ov, st⟩ b hb
    rw [List.mem_singleton.mp hb]
    exact ⟨_, st, fun v z => nomatch z⟩
  · rintro i h h' ⟨ok, ov, st⟩ k
    exact ⟨ok, ov, k it (List.mem_singleton.mpr rfl) _ st⟩
  · intro X eP ew eK hc i pins s σ H E I hf st hg
    subst eP ew eK
    obtain ⟨hsm, es2, ep2, hdt, raw, hsz, ent⟩ := I.rawT hg.2
    obtain ⟨rfl, rfl⟩ := dict_ep hod hdt
    obtain ⟨kv, hkv⟩ : ∃ p, kvs[i]? = some p := ⟨_, List.getElem?_eq_getElem hg.1⟩
    obtain ⟨hi, q, hk, hq, ru⟩ := ent i kv.1 kv.2 hkv
    obtain ⟨ok, ov, st⟩ := st
    rw [← hsz] at st
    have hlt : it < s.heap.objs.size := Heap.lt_size st
    refine wpAny_pyNext_items_item_raw st raw hi fun h' out hT hz keep => ?_
    refine ⟨_, rfl, wpAny_letOwnedTupleGo_items (s := { s with heap := h' }) out fun h2 st2 sb => ?_⟩
    have hT2 : h2.get? s.heap.objs.size = some { cls := .type "tuple", data := .seq #[es2[i].key, es2[i].val] } := (sb.2 _ (Nat.ne_of_gt hlt)).trans hT
    have ob : ObjOk X.prog X.w (upd H s.heap.objs.size (.tup [.ref q, kv.2])) h2 s.heap.objs.size (.tup [.ref q, kv.2]) := by
      refine ⟨by show 2 ≤ sizeLine; decide, [es2[i].key, es2[i].val], .cons ?_ (.cons ru .nil), ⟨_, hT2, rfl, _, rfl⟩⟩
      rw [hk] <;> rfl
    have J : Inv X pins σ (upd H s.heap.objs.size (.tup [.ref q, kv.2])) { s with heap := h2 } :=
      I.turnedNew (t' := s.toks) (ch := [it]) (fun b u nb e => (sb.2 b (fun z => nb (List.mem_singleton.mpr z))).trans (keep b u (fun z => nb (List.mem_singleton.mpr z)) e)) hf (Nat.le_refl _) ob
    refine ⟨.ref s.heap.objs.size, _, J, rfl, ⟨_, kv.1, kv.2, q, hkv, rfl, hq, I.hok.fresh (Nat.le_refl _), rfl⟩, ⟨es2[i].key, es2[i].val, by rw [← hsz]; exact st2⟩, fun b hb => ?_⟩
    rw [List.mem_singleton.mp hb, upd_ne (Nat.ne_of_lt hlt)]
    exact (hf it (List.mem_singleton.mpr rfl)).1
  · intro X eP ew eK hc i pins s σ H E I hf st hg
    subst eP ew eK
    obtain ⟨f0, f1, f2, f3, f4, f5⟩ := hf it (List.mem_singleton.mpr rfl)
    obtain ⟨hsm, es2, ep2, hdt, raw, hsz, ent⟩ := I.rawT hg.2
    obtain ⟨rfl, rfl⟩ := dict_ep hod hdt
    obtain ⟨ok, ov, st⟩ := st
    rw [← hsz] at st
    exact wpAny_pyNext_items_end_raw (I.ok.hd hc) st raw (by rw [hsz]; exact hg.1) fun h' eb => ⟨rfl, I.turned (t' := s.toks) (fun b u nb e => eb b u nb e) f0 f1 f3 f4 f5⟩
end
def iValsT (td : TE) : TI := fun σ H R => td σ H fun x H1 => ∃ d o kvs, x = .ref d ∧ H1 d = some (.frz o (.dT kvs)) ∧ R (ItdT d o kvs) H1
def iItemsT (td : TE) : TI := fun σ H R => td σ H fun x H1 => ∃ d o kvs, x = .ref d ∧ H1 d = some (.frz o (.dT kvs)) ∧ R (ItiT d o kvs) H1
section
variable {X : Cx} {tg e : Expr} {td : TE} {apos cpos : Pos}
theorem pi_valuesT (he : PE X e td) (hbase : attributeBase e "values" X.env (eval e X.env) = eval e X.env := by rfl) (hline : (apos.endLine == cpos.line) = true := by rfl) :
    PI X tg (.Call (.Attribute e "values" apos) [] [] cpos) (iValsT td) := by
  refine ⟨fun pins s σ H R I h => wpAny_Call_method (T := "dict") (id := "dict.values") hbase rfl hline F.plainAttrs_dict F.slot_dict_values F.type_dict_values (thn (he.run pins s σ H _ I h) fun u s1 ⟨x, H1, I1, rx, d, o, kvs, ex, hd, q⟩ => ?_)⟩
  subst ex
  obtain rfl : u = Value.ref d := rx
  obtain ⟨hsm, es, ep, hdt, raw, hsz, ent⟩ := I1.rawT hd
  obtain ⟨o1, e1, c1, d1⟩ := id raw
  refine ⟨raw.typeIs, fun b eb => ?_, ?_⟩
  · cases eb
    exact ⟨o1, e1, c1.2.1⟩
  have J : Inv X pins σ H1 { s1 with heap := s1.heap.push { cls := .type "dict_values", data := .fields #[.ref d] } } := I1.kept (t' := s1.toks) fun b ob e => Heap.get?_push_of_some _ e
  have raw2 : (s1.heap.push { cls := .type "dict_values", data := .fields #[.ref d] }).DictRaw d es ep := raw.at fun ob e => Heap.get?_push_of_some _ e
  have fin : wpAny (model X.prog X.w) X.A (pyIter (.ref s1.heap.objs.size)) (PIE X pins σ tg R) X.xe { s1 with heap := s1.heap.push { cls := .type "dict_values", data := .fields #[.ref d] } } := by
    refine wpAny_pyIter_values_raw (d := d) ⟨_, Heap.get?_push_size _ rfl, rfl, rfl⟩ raw2 (pi_one (tk := s1.toks) J _ (turn_valsT _ hdt) ⟨_, Heap.get?_push_size _ rfl, rfl, ?_⟩ q)
    rw [hsz] <;> rfl
  exact method_meetsIn F.slot_dict_values F.entry_dict_values rfl (PySem.evalArgs_none ⟨rfl, raw.typeIs, F.args_dict_values_1 _, _, meets_dict_values_raw d hsm, ⟨es, ep, raw⟩, fin⟩)
theorem pi_itemsT {elts : List Expr} {kk : Nat} {tpos : Pos} (he : PE X e td) (hbase : attributeBase e "items" X.env (eval e X.env) = eval e X.env := by rfl) (hline : (apos.endLine == cpos.line) = true := by rfl) :
    PI X (.Tuple elts kk tpos) (.Call (.Attribute e "items" apos) [] [] cpos) (iItemsT td) := by
  refine ⟨fun pins s σ H R I h => wpAny_Call_method (T := "dict") (id := "dict.items") hbase rfl hline F.plainAttrs_dict F.slot_dict_items F.type_dict_items (thn (he.run pins s σ H _ I h) fun u s1 ⟨x, H1, I1, rx, d, o, kvs, ex, hd, q⟩ => ?_)⟩
  subst ex
  obtain rfl : u = Value.ref d := rx
  obtain ⟨hsm, es, ep, hdt, raw, hsz, ent⟩ := I1.rawT hd
  obtain ⟨o1, e1, c1, d1⟩ := id raw
  refine ⟨raw.typeIs, fun b eb => ?_, ?_⟩
  · cases eb
    exact ⟨o1, e1, c1.2.1⟩
  have J : Inv X pins σ H1 { s1 with heap := s1.heap.push { cls := .type "dict_items", data := .fields #[.ref d] } } := I1.kept (t' := s1.toks) fun b ob e => Heap.get?_push_of_some _ e
  have raw2 : (s1.heap.push { cls := .type "dict_items", data := .fields #[.ref d] }).DictRaw d es ep := raw.at fun ob e => Heap.get?_push_of_some _ e
  have fin : wpAny (model X.prog X.w) X.A (pyIter (.ref s1.heap.objs.size)) (PIE X pins σ (.Tuple elts kk tpos) R) X.xe { s1 with heap := s1.heap.push { cls := .type "dict_items", data := .fields #[.ref d] } } := by
    refine wpAny_pyIter_items_raw (d := d) ⟨_, Heap.get?_push_size _ rfl, rfl, rfl⟩ raw2 (pi_one (tk := s1.toks) J _ (turn_itemsT _ hdt) ⟨.none, .none, ?_⟩ q)
    rw [← hsz]
    exact Heap.get?_push_size _ rfl
  exact method_meetsIn F.slot_dict_items F.entry_dict_items rfl (PySem.evalArgs_none ⟨rfl, raw.typeIs, F.args_dict_items_1 _, _, meets_dict_items_raw d hsm, ⟨es, ep, raw⟩, fin⟩)
end
section
variable {d : Addr} {o : Obj} {kvs : List (List Key × V)}
theorem walk_valuesT : Walk (ItdT d o kvs) kvs.length (fun H => H d = some (.frz o (.dT kvs))) (fun i H x H' => H' = H ∧ ∃ k, kvs[i]? = some (k, x)) :=
  ⟨fun _ _ hi q => ⟨hi, q⟩, fun _ q => ⟨Nat.le_refl _, q⟩, fun _ _ _ _ _ _ y => ⟨y.2, y.1⟩⟩
theorem walk_itemsT : Walk (ItiT d o kvs) kvs.length (fun H => H d = some (.frz o (.dT kvs)))
    (fun i H x H' => ∃ (T : Addr) (k : List Key) (v : V) (q : Addr), kvs[i]? = some (k, v) ∧ x = .ref T ∧ H q = some (.tup (k.map kV)) ∧ H T = none ∧ H' = upd H T (.tup [.ref q, v])) :=
  ⟨fun _ _ hi q => ⟨hi, q⟩, fun _ q => ⟨Nat.le_refl _, q⟩, fun _ _ _ _ _ _ y => y⟩
end
end L2
namespace PySem
open PySem PySem.Spec PyProof.Rows PySem.W
/-- dict(d), keys tuples, at most one of them -/
theorem call_dictH1 {prog : Program} {w : World} {A : Around} {E : Value → Shared → Prop} {s : Shared} {K : Type} [DecidableEq K] {knd : HeapKind prog w K} {o : Addr} {more : List (K × Addr × Value)} {Q : Value → Shared → Prop} (st : knd.Stays) (hu : knd.room A.in1.in1) (hoS : (o == sysModules) = false)
    (ho : s.heap.DictOfH knd o more) (h1 : more.length ≤ 1) (h : ∀ h', h'.DictOfH knd s.heap.objs.size more → Heap.SameBut s.heap.objs.size (s.heap.push { cls := .type "dict", data := .dict #[] }) h' → Q (.ref s.heap.objs.size) { s with heap := h' }) :
    wpAny (model prog w) A (call (.type "dict") [.ref o]) Q E s := by
  refine callType_codes (Q₁ := fun ob s1 => ob = .ref s.heap.objs.size ∧ s1 = { s with heap := s.heap.push { cls := .type "dict", data := .dict #[] } }) F.kt_called_dict (F.kt_typeCall_dict_1 _) F.entry_dict_init (kt_code_dict_new _ ⟨rfl, rfl⟩) ?_
  rintro ob s1 ⟨rfl, rfl⟩
  have hnew : (s.heap.push { cls := .type "dict", data := .dict #[] }).DictOfH knd s.heap.objs.size [] := Heap.DictOfH.new s.heap
  have kp : ∀ b u, s.heap.get? b = some u → (s.heap.push { cls := .type "dict", data := .dict #[] }).get? b = some u := fun b u e => Heap.get?_push_of_some _ e
  have ho2 : (s.heap.push { cls := .type "dict", data := .dict #[] }).DictOfH knd o more := by
    obtain ⟨ob, es, ep, q1, q2, q3, q4, q5, q6⟩ := ho
    exact ⟨ob, es, ep, kp _ _ q1, q2, q3, q4, fun x hx => st.stays (fun b u _ _ e _ => kp b u e) (q5 x hx), q6⟩
  have ne : s.heap.objs.size ≠ o := fun z => by
    obtain ⟨ob, _, _, q, _⟩ := ho
    exact absurd (Heap.lt_size q) (by rw [z]; exact Nat.lt_irrefl _)
  have hap : ([] : List (K × Addr × Value)) ≠ [] ∨ ((∀ x ∈ more, Shared.TypeIs { s with heap := s.heap.push { cls := .type "dict", data := .dict #[] } } (.ref x.2.1) "tuple") ∧ (more.map fun x => knd.hash x.1).Nodup) := by
    refine .inr ⟨keyed_apart st ho2, ?_⟩
    match more, h1 with
    | [], _ => exact List.nodup_nil
    | [x], _ => exact List.nodup_cons.mpr ⟨fun z => (nomatch z), List.nodup_nil⟩
    | _ :: _ :: _, z => exact absurd z (by simp)
  have eS : storedAllH [] more = more := by
    match more, h1 with
    | [], _ => rfl
    | [x], _ => rfl
    | _ :: _ :: _, z => exact absurd z (by simp)
  refine ⟨hnew.typeIs, F.args_dict_init_2 _ _, ?_⟩
  unfold Builtin.«dict.__init__»
  refine wpAny_bind ?_
  unfold Builtin.Dict.selfAndRest
  refine wpAny_bind (wpAny_notOrdered_dict hnew.typeIs ?_)
  refine wpAny_pure ?_
  refine updateFrom_dictH .none hu ne hoS hnew ho2 hap (by rw [List.length_nil, sizeLine_eq]; omega) fun h' d2 _ sb => ?_
  rw [eS] at d2
  exact ⟨rfl, h h' d2 sb⟩
end PySem
namespace L2
open PySem PySem.Spec PyProof.Rows
/-- a dict with tuple keys, as it stands in the raw heap -/
theorem dT_new {P : Program} {w : World} {H : Hp} {h : Heap} {a : Addr} {kvs : List (List Key × V)} {xs : List (List Key × Addr × Value)} (z : kvs.length ≤ sizeLine) (hm : (a == sysModules) = false) (r : KT H kvs xs) (dd : h.DictOfH (tupleKind (mixKind P w)) a xs) : ObjOk P w H h a (.dT kvs) := by
  obtain ⟨o, es, ep, q1, q2, q3, q4, q5, q6⟩ := dd
  exact ⟨z, hm, xs, r, o, es, ep, q1, q2, q3, q4, q6⟩
section
variable {X : Cx}
def rDictT : List V → Hp → VK → Prop := fun xs H Q => ∃ (a : Addr) (kvs : List (List Key × V)), xs = [.ref a] ∧ H a = some (.dT kvs) ∧ kvs.length ≤ 1 ∧ New (.dT kvs) H Q
theorem call_dictT (hu : X.A.units + 2 < cLine) : CallR X (.type "dict") rDictT := by
  intro pins s σ H xs us Q I r ⟨a, kvs, ex, hd, h1, q⟩
  subst ex
  obtain rfl := Vals.ref1 r
  obtain ⟨z, lo, ys, rel, dd⟩ := dt_of I.hok hd
  have hl : kvs.length = ys.length := Paired.length rel
  refine call_dictH1 tupleKind_stays (tupleKind_room_in1 (by show X.A.units + 1 + 1 < cLine; omega)) lo dd (by omega) fun h' d2 sb => ?_
  have hm : (s.heap.objs.size == sysModules) = false := beq_eq_false_iff_ne.mpr (Nat.ne_of_gt I.big)
  have hf : H s.heap.objs.size = none := I.hok.fresh (Nat.le_refl _)
  refine ⟨.ref s.heap.objs.size, upd H s.heap.objs.size (.dT kvs), I.laid (t' := s.toks) (fun b u e => (sb.2 b (Nat.ne_of_lt (Heap.lt_size e))).trans (Heap.get?_push_of_some _ e)) (Nat.le_refl _) (dT_new z hm (rel.keeps fun b ys e => ?_) d2), rfl, q.out _ hf⟩
  rw [upd_ne (ne_of_none e hf)]
  exact e
/-- {k: v}, the key a tuple -/
def tDispT (tk tv : TE) : TE := fun σ H Q => ∀ (p : Addr) (H1 : Hp), Fr H p → Same H H1 → H1 p = some (.dT []) → tk σ H1 fun x H2 => tv σ H2 fun y H3 => ∃ (b : Addr) (k : List Key), x = .ref b ∧ H3 p = some (.dT []) ∧ H3 b = some (.tup (k.map kV)) ∧ Put p (.dT [(k, y)]) H3 (Q (.ref p))
theorem pe_dispT {e f : Expr} {tk tv : TE} {pos : Pos} (hu : X.A.units + 1 < cLine) (he : PE X e tk) (hf : PE X f tv) : PE X (.Dict [some e] [f] pos) (tDispT tk tv) := by
  refine ⟨fun pins s σ H Q I q => ?_⟩
  have hn := I.hok.fresh (Nat.le_refl s.heap.objs.size)
  have I1 := I.laid (a := s.heap.objs.size) (o := .dT []) (h' := s.heap.push { cls := .type "dict", data := .dict #[] }) (t' := s.toks) (fun _ _ z => Heap.get?_push_of_some _ z) (Nat.le_refl _) (dt_empty s.heap I.big)
  have hlen : (pairTrees [some e] [f] X.env pos).length = 1 := (pairTrees_length [some e] [f] X.env pos rfl rfl)
  rw [arm_eval_Dict, zip_pairTrees [some e] [f] X.env pos rfl rfl, dictDisplay_pairs (pairTrees [some e] [f] X.env pos) (fun z => by rw [z] at hlen; cases hlen) (by omega)]
  have read : tPairs [(upE tk, upE tv)] σ (upd H s.heap.objs.size (.dT [])) (fun ps H2 => ∃ (y : V) (b : Addr) (k : List Key), ps = [(.ref b, y)] ∧ H2 s.heap.objs.size = some (.dT []) ∧ H2 b = some (.tup (k.map kV)) ∧ Put s.heap.objs.size (.dT [(k, y)]) H2 (Q (.ref s.heap.objs.size))) := by
    refine ⟨_, q _ _ hn ((Same.refl H).new hn) upd_same, fun x H1 r1 => ⟨_, r1, fun y H2 r2 => ?_⟩⟩
    obtain ⟨b, k, ex, hp, hb, pq⟩ := r2
    exact ⟨y, b, k, by rw [ex], hp, hb, pq⟩
  refine wpAny_bind (wpAny_standAt (wpAny_bind (wpAny_subDictH (knd := tupleKind (mixKind X.prog X.w)) (by show X.A.units < cLine; omega) (by omega) ?_)))
  refine thn ((pps_cons he.up hf.up pps_nil).run pins _ σ _ _ I1 read) fun ws s2 ⟨ps, H2, I2, rel, y, b, k, ep, hp, hb, pq⟩ => ?_
  subst ep
  cases rel with
  | @cons a1 w1 a2 w2 rp rn =>
    cases rn
    obtain ⟨u, v⟩ := w1
    obtain ⟨ru, rv⟩ := rp
    obtain rfl : u = Value.ref b := ru
    obtain ⟨_, lo, xs0, rel0, d0⟩ := dt_of I2.hok hp
    cases rel0
    refine ⟨[(k, b, v)], ⟨rfl, rfl, key_of I2.hok hb, True.intro⟩, d0, fun h' tk d1 sb => wpAny_pure ?_⟩
    have ne : b ≠ s.heap.objs.size := fun z => by
      rw [z, hp] at hb
      cases hb
    refine ⟨.ref s.heap.objs.size, upd H2 s.heap.objs.size (.dT [(k, y)]), ?_, rfl, pq.out⟩
    refine d_write I2 (by rw [hp]; exact True.intro) sb (let ⟨ob, _, _, q1, _⟩ := d1; ⟨ob, q1⟩) (dT_new (by show 1 ≤ sizeLine; decide) lo (.cons ⟨rfl, ?_, rv⟩ .nil) d1)
    rw [upd_ne ne]
    exact hb
end
end L2
namespace PySem
open PySem PySem.Spec PyProof.Rows PySem.W
section
variable {prog : Program} {w : World} {A : Around} {E : Value → Shared → Prop} {s : Shared} {a b : Addr} {es fs : Array DictEntry} {n m : Nat} {Q : Value → Shared → Prop}
/-- two dicts of unlike sizes -/
theorem ne_sizes (ha : (a == sysModules) = false) (hb : (b == sysModules) = false) (ra : s.heap.DictRaw a es n) (rb : s.heap.DictRaw b fs m) (ne : es.size ≠ fs.size) (hu : A.units < cLine) (h : Q (.bool true) s) : wpAny (model prog w) A (compareOp .NotEq (.ref a) (.ref b)) Q E s := by
  obtain ⟨oa, a1, _, a3⟩ := id ra
  obtain ⟨ob, b1, _, b3⟩ := id rb
  refine wpAny_richCompare_same_room (op := .NotEq) ra.typeIs rb.typeIs F.slot_dict_ne (wpAny_call_entry F.slot_dict_ne ra.typeIs F.entry_dict_ne ?_ (F.args_dict_ne_2 _ _)) hu
  show wpAny _ _ (Builtin.Dict.dictSlotArgs "__ne__" ⟨[.ref a, .ref b], []⟩ >>= _) _ _ s
  refine wpAny_bind ?_
  unfold Builtin.Dict.dictSlotArgs
  refine wpAny_bind (wpAny_notOrdered_dict ra.typeIs (wpAny_pure (wpAny_bind (wpAny_isInstance (T := "dict") rb.typeIs F.sub_dict_dict ?_))))
  simp only [Bool.not_true, Bool.false_eq_true, if_false]
  refine wpAny_bind (wpAny_pure (wpAny_bind (wpAny_pure (wpAny_bind ?_))))
  unfold Builtin.Dict.samePairs Builtin.Dict.showsAll
  rw [if_neg (by rw [ha]; exact Bool.false_ne_true), if_neg (by rw [hb]; exact Bool.false_ne_true)]
  refine wpAny_bind (wpAny_pure (wpAny_bind (wpAny_pure (wpAny_bind (wpAny_dictEntries a1 a3 (wpAny_bind (wpAny_dictEntries b1 b3 ?_)))))))
  rw [if_pos (by simpa using ne)]
  exact wpAny_bind (wpAny_rule (wpAny_pure (wpAny_pure ⟨_, rfl, ⟨(by intro x; cases x), h⟩⟩)))
end
end PySem
namespace L2
open PySem PySem.Spec PyProof.Rows
def rNeT : R2 := fun x y H Q => ∃ (a b : Addr) (ks ls : List (List Key × V)), x = .ref a ∧ y = .ref b ∧ H a = some (.dT ks) ∧ H b = some (.dT ls) ∧ ((ks = [] ∧ ls = [] ∧ Q (.bl false) H) ∨ (ks.length ≠ ls.length ∧ Q (.bl true) H))
theorem dT_raw {P : Program} {w : World} {H : Hp} {h : Heap} {a : Addr} {ks : List (List Key × V)} (ok : HOk P w H h) (e : H a = some (.dT ks)) : (a == sysModules) = false ∧ ∃ es ep, h.DictRaw a es ep ∧ es.size = ks.length := by
  obtain ⟨z, y, xs, r, o, es, ep, h1, h2, h3, h4, h5⟩ := (show ObjOk P w H h a (.dT ks) from ok a _ e)
  have l1 : es.size = xs.length := size_of_entries h4
  have l2 : ks.length = xs.length := Paired.length r
  exact ⟨y, es, ep, ⟨o, h1, h2, h3⟩, by omega⟩
theorem op_neT {X : Cx} (hu : X.A.units < cLine) : OpR X (compareOp .NotEq) rNeT := by
  intro pins s σ H x y v u Q I rx ry ⟨a, b, ks, ls, ex, ey, ea, eb, q⟩
  subst ex ey
  cases rx
  cases ry
  rcases q with ⟨rfl, rfl, q⟩ | ⟨ne, q⟩
  · have nil : ∀ {c : Addr}, H c = some (.dT []) → (c == sysModules) = false ∧ s.heap.DictOf (mixKind X.prog X.w) c [] := fun {c} e => by
      obtain ⟨z, y, xs, r, o, es, ep, h1, h2, h3, h4, h5⟩ := (show ObjOk X.prog X.w H s.heap c (.dT []) from I.hok c _ e)
      cases r
      obtain rfl : es = #[] := by
        obtain ⟨l⟩ := es
        cases l with
        | nil => rfl
        | cons u r => cases h4
      exact ⟨y, o, #[], ep, h1, h2, h3, (fun _ he => by simp at he), Pairs.nil, List.nodup_nil⟩
    obtain ⟨ya, da⟩ := nil ea
    obtain ⟨yb, db⟩ := nil eb
    exact PySem.W.keq_ne (knd := mixKind X.prog X.w) (r := true) ya yb da db hu (fun _ => .nil) ⟨.bl false, H, I, rfl, q⟩
  · obtain ⟨ya, es, ep, ra, la⟩ := dT_raw I.hok ea
    obtain ⟨yb, fs, fp, rb, lb⟩ := dT_raw I.hok eb
    exact ne_sizes ya yb ra rb (by rw [la, lb]; exact ne) hu ⟨.bl true, H, I, rfl, q⟩
end L2
namespace L2
open PySem PySem.Spec PyProof.Rows
theorem room2 {k : Nat} {A : Around} (r : Room k A) : A.units + 2 < cLine := by
  have h := r.un
  omega
theorem room0 {k : Nat} {A : Around} (r : Room k A) : A.units < cLine := by
  have h := r.un
  omega
end L2
namespace L2
open PySem PySem.Spec PyProof.Rows
/-- the ends of what runs under a lock -/
abbrev lkD (D : Ends) (d : Addr) (od : Obj) (u : HO) : Ends := ⟨fun σ' H' => H' d = some (.frz od u) ∧ D.nx σ' (upd H' d u), fun v H' => H' d = some (.frz od u) ∧ D.rt v (upd H' d u), fun σ' H' => H' d = some (.frz od u) ∧ D.bk σ' (upd H' d u), fun σ' H' => H' d = some (.frz od u) ∧ D.ct σ' (upd H' d u)⟩
section
variable {td : TE} {g : TG} {tb : TS} {D : Ends} {σ : St} {H : Hp} {d : Addr} {kvs : List (List Key × V)}
/-- for k in d, keys tuples -/
theorem lock_keysT (hd : H d = some (.dT kvs)) (hv : ∀ od Q, Q (.ref d) (upd H d (.frz od (.dT kvs))) → td σ (upd H d (.frz od (.dT kvs))) Q) (Pv : Obj → Nat → St → Hp → Prop)
    (h0 : ∀ od, Pv od 0 σ (upd H d (.frz od (.dT kvs)))) (hG : ∀ od i σ' H', Pv od i σ' H' → H' d = some (.frz od (.dT kvs)))
    (hs : ∀ od i k v q σ' H', kvs[i]? = some (k, v) → Pv od i σ' H' → H' q = some (.tup (k.map kV)) → g (.ref q) σ' H' fun σ2 H2 => tb { lkD D d od (.dT kvs) with nx := Pv od (i + 1), ct := Pv od (i + 1), bk := (lkD D d od (.dT kvs)).nx } σ2 H2)
    (he : ∀ od σ' H', Pv od kvs.length σ' H' → D.nx σ' (upd H' d (.dT kvs))) : tLock (tFor (iKeys td) g tb) D σ H := by
  refine ⟨d, _, hd, trivial, fun od => hv od _ ⟨d, od, rfl, .inr ⟨kvs, upd_same, ?_⟩⟩⟩
  refine for_it walk_keysT (Pv od) (h0 od) (fun i σ' H' _ p => hG od i σ' H' p) (fun i x σ' H' H2 hi p y => ?_) fun σ' H' p => ⟨hG od _ σ' H' p, he od σ' H' p⟩
  obtain ⟨rfl, k, v, q, e1, rfl, e2⟩ := y
  exact hs od i k v q σ' H2 e1 p e2
/-- for v in d.values(), keys tuples -/
theorem lock_valsT (hd : H d = some (.dT kvs)) (hv : ∀ od Q, Q (.ref d) (upd H d (.frz od (.dT kvs))) → td σ (upd H d (.frz od (.dT kvs))) Q) (Pv : Obj → Nat → St → Hp → Prop)
    (h0 : ∀ od, Pv od 0 σ (upd H d (.frz od (.dT kvs)))) (hG : ∀ od i σ' H', Pv od i σ' H' → H' d = some (.frz od (.dT kvs)))
    (hs : ∀ od i k v σ' H', kvs[i]? = some (k, v) → Pv od i σ' H' → g v σ' H' fun σ2 H2 => tb { lkD D d od (.dT kvs) with nx := Pv od (i + 1), ct := Pv od (i + 1), bk := (lkD D d od (.dT kvs)).nx } σ2 H2)
    (he : ∀ od σ' H', Pv od kvs.length σ' H' → D.nx σ' (upd H' d (.dT kvs))) : tLock (tFor (iValsT td) g tb) D σ H := by
  refine ⟨d, _, hd, trivial, fun od => hv od _ ⟨d, od, kvs, rfl, upd_same, ?_⟩⟩
  refine for_it walk_valuesT (Pv od) (h0 od) (fun i σ' H' _ p => hG od i σ' H' p) (fun i x σ' H' H2 hi p y => ?_) fun σ' H' p => ⟨hG od _ σ' H' p, he od σ' H' p⟩
  obtain ⟨rfl, k, e1⟩ := y
  exact hs od i k x σ' H2 e1 p
/-- for k, v in d.items(), keys tuples -/
theorem lock_itemsT (hd : H d = some (.dT kvs)) (hv : ∀ od Q, Q (.ref d) (upd H d (.frz od (.dT kvs))) → td σ (upd H d (.frz od (.dT kvs))) Q) (Pv : Obj → Nat → St → Hp → Prop)
    (h0 : ∀ od, Pv od 0 σ (upd H d (.frz od (.dT kvs)))) (hG : ∀ od i σ' H', Pv od i σ' H' → H' d = some (.frz od (.dT kvs)))
    (hs : ∀ od i k v q T σ' H' H2, kvs[i]? = some (k, v) → Pv od i σ' H' → H' q = some (.tup (k.map kV)) → Fr H' T → Same H' H2 → H2 T = some (.tup [.ref q, v]) →
      g (.ref T) σ' H2 fun σ2 H3 => tb { lkD D d od (.dT kvs) with nx := Pv od (i + 1), ct := Pv od (i + 1), bk := (lkD D d od (.dT kvs)).nx } σ2 H3)
    (he : ∀ od σ' H', Pv od kvs.length σ' H' → D.nx σ' (upd H' d (.dT kvs))) : tLock (tFor (iItemsT td) g tb) D σ H := by
  refine ⟨d, _, hd, trivial, fun od => hv od _ ⟨d, od, kvs, rfl, upd_same, ?_⟩⟩
  refine for_it walk_itemsT (Pv od) (h0 od) (fun i σ' H' _ p => hG od i σ' H' p) (fun i x σ' H' H2 hi p y => ?_) fun σ' H' p => ⟨hG od _ σ' H' p, he od σ' H' p⟩
  obtain ⟨T, k, v, q, e1, rfl, e2, hT, rfl⟩ := y
  exact hs od i k v q T σ' H' _ e1 p e2 hT ((Same.refl H').new hT) upd_same
end
theorem upd_back {H : Hp} {d : Addr} {o : Obj} {u : HO} (h : H d = some u) : upd (upd H d (.frz o u)) d u = H := by
  rw [upd_upd, upd_self h]
end L2
namespace L2
open PySem PySem.Spec PyProof.Rows
/-- list(d), keys tuples -/
def rListDT : List V → Hp → VK → Prop := fun xs H Q => ∃ (d : Addr) (kvs : List (List Key × V)), xs = [V.ref d] ∧ H d = some (.dT kvs) ∧ ∀ bs, IsKeys H kvs bs → New (.lst (bs.map V.ref)) H Q
theorem call_listDT {X : Cx} (hc : X.calm = true) : CallR X (.type "list") rListDT := CallR.imp (call_list_dT hc) fun xs H Q ⟨d, kvs, e, h, q⟩ => ⟨d, kvs, e, .inl h, fun p bs hp ik => (q bs ik).out p hp⟩
/-- a comprehension over an empty dict -/
theorem lock_lcT0 {td te : TE} {g : TG} {tt : TT} {vs : List Nat} {σ : St} {H : Hp} {d : Addr} {Q : VK} (hd : H d = some (.dT [])) (hv : ∀ od R, R (.ref d) (upd H d (.frz od (.dT []))) → td σ (upd H d (.frz od (.dT []))) R) (q : New (.lst []) H Q) : tLockE (tLc (iKeys td) g tt te vs) σ H Q := by
  refine ⟨d, _, hd, trivial, fun od => hv od _ ⟨d, od, rfl, .inr ⟨[], upd_same, fun D hD => ?_⟩⟩⟩
  have nd : d ≠ D := ne_of_none upd_same hD
  have hD0 : H D = none := by
    rw [upd_ne nd.symm] at hD
    exact hD
  have at_d : upd (upd H d (.frz od (.dT []))) D (.lst []) d = some (.frz od (.dT [])) := by
    rw [upd_ne nd]
    exact upd_same
  refine lc_none ⟨at_d, Nat.le_refl _⟩ ⟨at_d, ?_⟩
  have e : upd (upd (upd H d (.frz od (.dT []))) D (.lst [])) d (.dT []) = upd H D (.lst []) := by
    funext b
    by_cases e1 : b = d
    · rw [e1, upd_same, upd_ne nd, hd]
    by_cases e2 : b = D
    · rw [upd_ne e1, e2, upd_same, upd_same]
    · rw [upd_ne e1, upd_ne e2, upd_ne e2, upd_ne e1]
  rw [e]
  exact q.out D hD0
end L2
namespace L2
open PySem PySem.Spec PyProof.Rows
theorem callR_or {X : Cx} {f : Value} {r r' : List V → Hp → VK → Prop} (h : CallR X f r) (k : CallR X f r') : CallR X f fun xs H Q => r xs H Q ∨ r' xs H Q := fun pins s σ H xs us Q I rx q => q.elim (h pins s σ H xs us Q I rx) (k pins s σ H xs us Q I rx)
end L2

/-! more of dicts with tuple keys: d.update(o), sorted(d) of at most one key (behind t_dt; imports HandS.TupSets) -/
namespace L2
open PySem PySem.Spec PyProof.Rows
section
variable {X : Cx}
/-- d.update(o), o of one key at most -/
def rUpdT : V → List V → Hp → VK → Prop := fun x xs H Q => ∃ (a o : Addr) (kvs more : List (List Key × V)), x = .ref a ∧ xs = [.ref o] ∧ a ≠ o ∧ H a = some (.dT kvs) ∧ H o = some (.dT more) ∧ more.length ≤ 1 ∧ kvs.length ≤ 100 ∧
  Put a (.dT (more.foldl (fun acc kv => putK acc kv.1 kv.2) kvs)) H (Q .non)
theorem mt_updT (hu : X.A.units + 1 < cLine) : MtR X "dict.update" rUpdT := by
  intro pins s σ H x xs v us Q I rx rxs h
  obtain ⟨a, o, kvs, more, rfl, rfl, ne, ha, ho, h1, hl, q⟩ := h
  cases rx
  obtain rfl := Vals.ref1 rxs
  obtain ⟨z, hd, xs1, rel, dd⟩ := dt_of I.hok ha
  obtain ⟨z2, hd2, xs2, rel2, dd2⟩ := dt_of I.hok ho
  have e1 : kvs.length = xs1.length := Paired.length rel
  have e2 : more.length = xs2.length := Paired.length rel2
  have nd : (xs2.map fun x => (tupleKind (mixKind X.prog X.w)).hash x.1).Nodup := by
    match xs2, (show xs2.length ≤ 1 by omega) with
    | [], _ => exact List.nodup_nil
    | [x], _ => exact List.nodup_cons.mpr ⟨fun z => (nomatch z), List.nodup_nil⟩
    | _ :: _ :: _, z => exact absurd z (by simp)
  have kt : KT H (more.foldl (fun acc kv => putK acc kv.1 kv.2) kvs) (storedAllH xs1 xs2) := by
    match more, xs2, rel2, h1 with
    | [], [], _, _ => exact rel
    | [kv], [x], .cons h t, _ =>
      obtain ⟨h1, h2, h3⟩ := h
      have := rel.put kv.1 h2 h3
      show KT H (putK kvs kv.1 kv.2) (storedH xs1 x.1 x.2.1 x.2.2)
      rw [← h1]
      exact this
    | _ :: _ :: _, _, _, z => exact absurd z (by simp)
  have kl : (more.foldl (fun acc kv => putK acc kv.1 kv.2) kvs).length ≤ kvs.length + 1 := by
    match more, h1 with
    | [], _ => exact Nat.le_succ _
    | [kv], _ => exact length_putK kvs kv.1 kv.2
    | _ :: _ :: _, z => exact absurd z (by simp)
  refine call_update_dictH (tupleKind_room_in1 hu) ne hd2 dd dd2 (.inr ⟨keyed_apart tupleKind_stays dd2, nd⟩) (by rw [sizeLine_eq]; omega) fun h' d1 _ sb => ?_
  have I2 : Inv X pins σ (upd H a (.dT (more.foldl (fun acc kv => putK acc kv.1 kv.2) kvs))) { s with heap := h', toks := s.toks } :=
    d_write I (by rw [ha]; exact True.intro) sb (let ⟨ob, _, _, q1, _⟩ := d1; ⟨ob, q1⟩) (dT_new (by rw [sizeLine_eq]; omega) hd (kt.keeps (fun c ys ec => (by rw [upd_ne (ne_of ec ha (fun z => nomatch z))]; exact ec))) d1)
  exact ⟨.non, _, I2, rfl, q.out⟩
/-- sorted(d), keys tuples, one at most -/
def rSortT1 : List V → Hp → VK → Prop := fun xs H Q => ∃ (d : Addr) (kvs : List (List Key × V)), xs = [.ref d] ∧ H d = some (.dT kvs) ∧ kvs.length ≤ 1 ∧ ∀ bs, IsKeys H kvs bs → New (.lst (bs.map V.ref)) H Q
theorem cr_sortT1 (hc : X.calm = true) : CallR X (.builtin "sorted") rSortT1 := by
  intro pins s σ H xs us Q I r ⟨d, kvs, ex, hd, hl, q⟩
  subst ex
  obtain rfl := Vals.ref1 r
  obtain ⟨z, hs, ks, pr, o, es, ep, ho, hx, hdt, he, hn⟩ := (show ObjOk X.prog X.w H s.heap d (.dT kvs) from I.hok d _ hd)
  have l1 : es.size = ks.length := size_of_entries he
  have l2 : kvs.length = ks.length := Paired.length pr
  refine Calls.call_function_entry PyProof.Rows.kind_sorted PyProof.Rows.plain_sorted PyProof.Rows.entry_sorted (PyProof.Rows.args_sorted1 _) ?_
  unfold Builtin.«sorted»
  refine wpAny_bind (m := checkCount "sorted" 1 1 _) (wpAny_pure ?_)
  refine wpAny_bind (PySem.W.kdu_collect (A := X.A.in1) (kdl_raw hs hx hdt) (I.ok.hd hc) ho (by rw [sizeLine_eq]; omega) fun h' tk acc hk it => ?_)
  have ea : acc.toList = ks.map fun x => Value.ref x.2.1 := by
    have hl2 : acc.toList.length = ks.length := by rw [Array.length_toList, it.1]; exact l1
    apply List.ext_getElem?
    intro j
    rw [List.getElem?_map]
    cases hj : acc.toList[j]? with
    | none =>
      have h1 := List.getElem?_eq_none_iff.mp hj
      rw [List.getElem?_eq_none (by omega)]
      all_goals rfl
    | some v =>
      obtain ⟨en, hen, hv⟩ := it.2 j v (by rw [← Array.getElem?_toList]; exact hj)
      have qe := entry_at he j
      rw [hen] at qe
      cases hb : ks[j]? with
      | none =>
        rw [hb] at qe
        exact nomatch (show some en = none from qe)
      | some b =>
        rw [hb] at qe
        have e2 : en = entryOfKey (tupleKind (mixKind X.prog X.w)) b := Option.some.inj qe
        rw [hv, e2]
        all_goals rfl
  have eb : acc.toList = (ks.map fun x => x.2.1).map Value.ref := by rw [ea, List.map_map]; all_goals rfl
  have hal : acc.toList.length ≤ 1 := by rw [ea, List.length_map]; omega
  have I1 : Inv X pins σ H { s with heap := h', toks := tk } := I.kept hk
  refine wpAny_bind (wpAny_newList ?_ (by rw [sizeLine_eq]; omega))
  have hoL : (h'.push (seqObj "list" acc.toList.toArray 0)).get? h'.objs.size = some (seqObj "list" acc.toList.toArray 0) := Heap.get?_push_size _ rfl
  show wpAny _ _ _ _ _ { s with heap := h'.push (seqObj "list" acc.toList.toArray 0), toks := tk }
  refine wpAny_bind (wpAny_holding (wpAny_call_entry PyProof.Rows.slot_list_sort ⟨_, hoL, rfl⟩ PyProof.Rows.entry_list_sort
    (SK.plain_sort (s := { s with heap := h'.push (seqObj "list" acc.toList.toArray 0), toks := tk }) (r := fun _ => 0) hoL (by omega) (fun h2 => absurd h2 (by omega)) fun ps out a1 a2 a3 => ⟨_, rfl, ?_⟩)
    (PyProof.Rows.args_list_sort _)))
  obtain ⟨pm, _⟩ := TS.out_rank (r := fun _ => 0) a1 a2 a3
  have eo : out.toList = acc.toList := by
    match hA : acc.toList, hal with
    | [], _ => rw [hA] at pm; exact pm.eq_nil
    | [x], _ => rw [hA] at pm; exact List.perm_singleton.mp pm
    | _ :: _ :: _, z => exact absurd z (by simp)
  obtain ⟨e', he'⟩ := PyProof.Rows.sortedHeap_at (vs := acc.toList) (out := out) hoL
  have rv : Vals ((ks.map fun x => x.2.1).map V.ref) out.toList := by rw [eo, eb]; exact vals_refs _
  have hz : ((ks.map fun x => x.2.1).map V.ref).length ≤ sizeLine := by rw [List.length_map, List.length_map, sizeLine_eq]; omega
  refine wpAny_pure ⟨_, rfl, .ref h'.objs.size, upd H h'.objs.size (.lst ((ks.map fun x => x.2.1).map V.ref)), I1.laid (t' := tk) (fun b u e => ?_) (Nat.le_refl _)
    (show ObjOk X.prog X.w _ _ _ (.lst ((ks.map fun x => x.2.1).map V.ref)) from ⟨hz, out.toList, e', rv, by rw [Array.toArray_toList]; exact he'⟩), rfl, (q _ (isKeys_of pr)).out _ (I1.hok.fresh (Nat.le_refl _))⟩
  have hb : b < h'.objs.size := Heap.lt_size e
  rw [PyProof.Rows.sortedHeap_old (Nat.ne_of_lt hb) (by rw [size_push']; exact Nat.lt_succ_of_lt hb)]
  exact Heap.get?_push_of_some _ e
end
end L2
/-! list(d.values()) -/
namespace L2
open PySem PySem.Spec PyProof.Rows
/-- the view d.values() at p -/
def valuesO (p d : Addr) : HO := .ext fun h => h.IsValuesView p d
theorem valuesO_ok {P : Program} {w : World} {H : Hp} {h : Heap} {p d : Addr} (e : h.get? p = some { cls := .type "dict_values", data := .fields #[.ref d] }) : ObjOk P w H h p (valuesO p d) :=
  ⟨⟨_, e, rfl, rfl⟩, ⟨_, e⟩, fun h1 h2 x k => let ⟨o, ho, r⟩ := x; ⟨o, k o ho, r⟩⟩
/-- a dict's values, whatever its keys -/
def ValsD (H : Hp) (a : Addr) (vs : List V) : Prop := (∃ kvs : List (List Key × V), H a = some (.dT kvs) ∧ vs = kvs.map (·.2)) ∨ ∃ kvs : List (Key × V), H a = some (.dK kvs) ∧ vs = kvs.map (·.2)
section
variable {X : Cx} {pins : List (Addr × Obj)} {σ : St} {H : Hp} {s : Shared}
theorem valsD_raw {a : Addr} {vs : List V} (I : Inv X pins σ H s) (h : ValsD H a vs) : (a == sysModules) = false ∧ ∃ es ep, s.heap.DictRaw a es ep ∧ es.size = vs.length ∧ vs.length ≤ sizeLine ∧ ∀ (i : Nat) (hi : i < es.size), ∃ v, vs[i]? = some v ∧ RelV v es[i].val := by
  rcases h with ⟨kvs, e, rfl⟩ | ⟨kvs, e, rfl⟩
  · obtain ⟨z, hs, ks, pr, o, es, ep, ho, hx, hdt, he, hn⟩ := (show ObjOk X.prog X.w H s.heap a (.dT kvs) from I.hok a _ e)
    have l1 : es.size = ks.length := size_of_entries he
    have l2 : kvs.length = ks.length := Paired.length pr
    refine ⟨hs, es, ep, ⟨o, ho, hx, hdt⟩, by rw [List.length_map]; omega, by rw [List.length_map]; exact z, fun i hi => ?_⟩
    obtain ⟨kv, hkv⟩ : ∃ kv, kvs[i]? = some kv := ⟨_, List.getElem?_eq_getElem (by omega)⟩
    obtain ⟨b, hb, e1, e2, e3⟩ := paired_get pr hkv
    have q := entry_at he i
    rw [hb, Array.getElem?_eq_getElem hi] at q
    have q2 : es[i] = _ := Option.some.inj q
    exact ⟨kv.2, by rw [List.getElem?_map, hkv]; rfl, by rw [q2]; exact e3⟩
  · obtain ⟨z, hs, ks, pr, o, es, ep, ho, hx, hdt, he, hp, hn⟩ := dk_of I.hok e
    have l1 : es.size = ks.length := by
      rw [← Array.length_toList]
      exact hp.length
    have l2 : kvs.length = ks.length := Paired.length pr
    refine ⟨hs, es, ep, ⟨o, ho, hx, hdt⟩, by rw [List.length_map]; omega, by rw [List.length_map]; exact z, fun i hi => ?_⟩
    obtain ⟨kv, hkv⟩ : ∃ kv, kvs[i]? = some kv := ⟨_, List.getElem?_eq_getElem (by omega)⟩
    obtain ⟨u, hu, ru⟩ := kv_get pr (k := kv.1) (v := kv.2) hkv
    have q := hp.get? (i := i) (e := es[i]) (by rw [Array.getElem?_toList]; exact Array.getElem?_eq_getElem hi) hu
    exact ⟨kv.2, by rw [List.getElem?_map, hkv]; rfl, by rw [q.2]; exact ru⟩
def rValuesD : V → List V → Hp → VK → Prop := fun x xs H Q => ∃ (a : Addr) (vs : List V), x = .ref a ∧ xs = [] ∧ ValsD H a vs ∧ ∀ (p : Addr) H', Fr H p → Same H H' → H' p = some (valuesO p a) → Q (.ref p) H'
theorem mt_valuesD : MtR X "dict.values" rValuesD := by
  intro pins s σ H x xs v us Q I rx rxs h
  obtain ⟨a, vs, rfl, rfl, ha, q⟩ := h
  cases rx
  cases rxs
  obtain ⟨hd, es, ep, raw, _⟩ := valsD_raw I ha
  have hf : H s.heap.objs.size = none := I.hok.fresh (Nat.le_refl _)
  refine call_meetsIn F.slot_dict_values raw.typeIs F.entry_dict_values (F.args_dict_values_1 _) (meets_dict_values_raw a hd) ⟨⟨es, ep, raw⟩, ?_⟩
  exact ⟨.ref s.heap.objs.size, upd H s.heap.objs.size (valuesO s.heap.objs.size a), I.laid (t' := s.toks) (fun b u e => Heap.get?_push_of_some _ e) (Nat.le_refl _) (valuesO_ok (Heap.get?_push_size _ rfl)), rfl, q _ _ hf ((Same.refl H).new hf) upd_same⟩
def rListVals : List V → Hp → VK → Prop := fun xs H Q => ∃ (p a : Addr) (vs : List V), xs = [.ref p] ∧ H p = some (valuesO p a) ∧ ValsD H a vs ∧ New (.lst vs) H Q
theorem call_listVals (hc : X.calm = true) : CallR X (.type "list") rListVals := by
  intro pins s σ H xs us Q I r ⟨p, a, vs, ex, hp, ha, q⟩
  subst ex
  obtain rfl := Vals.ref1 r
  obtain ⟨hd, es, ep, raw, hl, hz, ent⟩ := valsD_raw I ha
  have view : s.heap.IsValuesView p a := (I.hok p _ hp).1
  refine PySem.W.kdl_call (KdlSrc.rawValues (es := es) (ep := ep)) (I.ok.hd hc) ⟨view, raw⟩ (by omega) fun h' tk acc' c' kp e it => ?_
  have rv : Vals vs acc'.toList := by
    refine vals_of_at (hl.symm.trans (it.1.symm.trans Array.length_toList.symm)) fun j x u ex eu => ?_
    obtain ⟨hi, hv⟩ := it.2 j u (by rw [← Array.getElem?_toList]; exact eu)
    obtain ⟨v, ev, rv⟩ := ent j hi
    obtain rfl : v = x := Option.some.inj (ev.symm.trans ex)
    rw [hv]
    exact rv
  refine ⟨.ref s.heap.objs.size, _, I.laid (t' := tk) (o := .lst vs) kp (Nat.le_refl _) ⟨hz, acc'.toList, c', rv, by rw [Array.toArray_toList]; exact e⟩, rfl, q.out _ (I.hok.fresh (Nat.le_refl _))⟩
end
end L2
/-! list(d.items()), keys tuples -/
namespace DT
open PySem PySem.Spec PyProof.Rows PySem.W
theorem list_items {prog : Program} {w : World} {A : Around} {E : Value → Shared → Prop} {s : Shared} {r d : Addr} {es : Array DictEntry} {ep : Nat} {Q : Value → Shared → Prop} (hh : A.handled = none) (hv : s.heap.IsItemsView r d) (hm : Raw s.heap d es ep) (hn : es.size ≤ sizeLine)
    (hQ : ∀ h' tk acc' c' as, (∀ b o, s.heap.get? b = some o → h'.get? b = some o) → h'.get? s.heap.objs.size = some { cls := .type "list", dict := none, data := .seq acc' c', slots := #[] } → as.length = es.size → Made es s.heap.objs.size h' as →
      acc'.toList = as.map Value.ref → Q (.ref s.heap.objs.size) { s with heap := h', toks := tk }) :
    wpAny (model prog w) A (call (.type "list") [.ref r]) Q E s := by
  refine callType_codes (Q₁ := fun obj s₁ => obj = .ref s.heap.objs.size ∧ s₁ = { s with heap := s.heap.push { cls := .type "list", data := .seq #[] } }) PySem.F.called_list (PySem.F.typeCall_list_1 _) PySem.F.entry_list_init
    (code_list_new _ ⟨rfl, rfl⟩) fun obj s₁ h₁ => ?_
  obtain ⟨rfl, rfl⟩ := h₁
  have hS : (s.heap.push { cls := .type "list", data := .seq #[] }).get? s.heap.objs.size = some { cls := .type "list", data := .seq #[] } := Heap.get?_push_size _ rfl
  have hr : r < s.heap.objs.size := let ⟨_, ho, _⟩ := hv; Heap.lt_size ho
  have hd : d < s.heap.objs.size := hm.lt
  refine ⟨⟨_, hS, rfl⟩, PySem.F.args_list_init_2 _ _, ?_⟩
  show wpAny _ _ (do let old ← Builtin.List.listItems (.ref s.heap.objs.size); Builtin.List.listUpdate (.ref s.heap.objs.size) (fun _ => #[]); letGo old.toList.reverse; Builtin.List.listExtendWith (.ref s.heap.objs.size) (.ref r) .none) _ _ _
  refine wpAny_bind ?_
  unfold Builtin.List.listItems
  refine wpAny_bind (wpAny_seqItems hS rfl (wpAny_pure ?_))
  show wpAny _ _ (updateSeq s.heap.objs.size (fun _ => #[]) >>= fun _ => letGo (#[] : Array Value).toList.reverse >>= fun _ => Builtin.List.listExtendWith (.ref s.heap.objs.size) (.ref r) .none) _ _ _
  refine wpAny_bind (wpAny_updateSeq hS rfl ?_)
  have hS₂ := Heap.get?_update_self (Obj.mapSeq (fun _ => (#[] : Array Value))) hS rfl
  have oth : ∀ b o, s.heap.get? b = some o → ((s.heap.push { cls := .type "list", data := .seq #[] }).update s.heap.objs.size (Obj.mapSeq (fun _ => (#[] : Array Value)))).get? b = some o :=
    fun b o e => (Heap.get?_update_other _ _ (Nat.ne_of_gt (Heap.lt_size e))).trans (Heap.get?_push_of_some _ e)
  have sz : s.heap.objs.size ≤ ((s.heap.push { cls := .type "list", data := .seq #[] }).update s.heap.objs.size (Obj.mapSeq (fun _ => (#[] : Array Value)))).objs.size := by
    rw [Heap.size_update, Heap.size_push]
    exact Nat.le_succ _
  refine wpAny_bind (wpAny_letGo ?_)
  refine extI (A := A.in1) (es := es) (ep := ep) hh ?_ ?_ s.heap.objs.size (Nat.ne_of_gt hr) (Nat.ne_of_lt hd) .none _ hS₂ (fun h' tk acc' c' as hk hS' hl hG hacc => ?_) hn
  · exact let ⟨o, ho, x⟩ := hv; ⟨o, oth _ _ ho, x⟩
  · exact hm.at' fun o e => oth _ _ e
  · exact ⟨rfl, hQ h' tk acc' c' as (fun b o e => hk b o (Nat.ne_of_lt (Heap.lt_size e)) (oth b o e)) hS' hl (hG.low sz) hacc⟩
end DT
namespace L2
open PySem PySem.Spec PyProof.Rows
section
variable {X : Cx}
def rListItems : List V → Hp → VK → Prop := fun xs H Q => ∃ (p a : Addr) (kvs : List (List Key × V)), xs = [.ref p] ∧ H p = some (DX.itemsO p a) ∧ H a = some (.dT kvs) ∧
  ∀ (l : Addr) (ts : List Addr) H', Fr H l → Same H H' → H' l = some (.lst (ts.map V.ref)) → ts.length = kvs.length →
    (∀ (j : Nat) (t : Addr) (kv : List Key × V), ts[j]? = some t → kvs[j]? = some kv → ∃ q, H' t = some (.tup [.ref q, kv.2]) ∧ H' q = some (.tup (kv.1.map kV))) → Q (.ref l) H'
theorem call_listItems (hc : X.calm = true) : CallR X (.type "list") rListItems := by
  intro pins s σ H xs us Q I r ⟨p, a, kvs, ex, hp, ha, q⟩
  subst ex
  obtain rfl := Vals.ref1 r
  obtain ⟨z, hs, ks, pr, o, es, ep, ho, hx, hdt, he, hn⟩ := (show ObjOk X.prog X.w H s.heap a (.dT kvs) from I.hok a _ ha)
  have l1 : es.size = ks.length := size_of_entries he
  have l2 : kvs.length = ks.length := Paired.length pr
  have view : s.heap.IsItemsView p a := (I.hok p _ hp).1
  refine DT.list_items (es := es) (ep := ep) (I.ok.hd hc) view ⟨o, ho, hx, hdt⟩ (by omega) fun h' tk acc' c' as kp e hl hG hacc => ?_
  have hf : H s.heap.objs.size = none := I.hok.fresh (Nat.le_refl _)
  have I1 : Inv X pins σ (upd H s.heap.objs.size (.lst (as.map V.ref))) { s with heap := h', toks := tk } :=
    I.laid (t' := tk) (o := .lst (as.map V.ref)) kp (Nat.le_refl _) ⟨by rw [List.length_map]; omega, acc'.toList, c', by rw [hacc]; exact vals_refs _, by rw [Array.toArray_toList]; exact e⟩
  have sm : Same H (upd H s.heap.objs.size (.lst (as.map V.ref))) := (Same.refl H).new hf
  obtain ⟨H2, I2, g, tt⟩ := DX.takeT (P := fun t vs => ∀ (j : Nat) (kv : List Key × V), as[j]? = some t → kvs[j]? = some kv → ∃ q, vs = [.ref q, kv.2] ∧ H q = some (.tup (kv.1.map kV))) I as _ I1 (hG.rise.imp fun h => Nat.ne_of_lt h) fun t ht => by
    have ab := hG.above t ht
    obtain ⟨j, hj⟩ := List.mem_iff_getElem?.mp ht
    obtain ⟨en, e1, e2⟩ := hG.pairs j t hj
    have hi : j < es.size := by
      have := (List.getElem?_eq_some_iff.mp hj).1
      omega
    obtain ⟨kv, hkv⟩ : ∃ kv, kvs[j]? = some kv := ⟨_, List.getElem?_eq_getElem (by omega)⟩
    obtain ⟨b, hb, d1, d2, d3⟩ := paired_get pr hkv
    have qe := entry_at he j
    rw [hb, e1] at qe
    have q2 : en = _ := Option.some.inj qe
    refine ⟨Nat.le_of_lt ab, by rw [upd_ne (Nat.ne_of_gt ab)]; exact I.hok.fresh (Nat.le_of_lt ab), [.ref b.2.1, kv.2], fun j2 kv2 hj2 hkv2 => ?_, fun H2 => ?_⟩
    · obtain rfl : j2 = j := by
        obtain ⟨i1, k1⟩ := List.getElem?_eq_some_iff.mp hj2
        obtain ⟨i2, k2⟩ := List.getElem?_eq_some_iff.mp hj
        exact (List.getElem_inj (hG.rise.imp fun h => Nat.ne_of_lt h)).mp (k1.trans k2.symm)
      obtain rfl : kv2 = kv := Option.some.inj (hkv2.symm.trans hkv)
      exact ⟨b.2.1, rfl, d2⟩
    · refine ⟨by show 2 ≤ sizeLine; decide, [en.key, en.val], .cons ?_ (.cons ?_ .nil), ⟨_, e2, rfl, _, rfl⟩⟩
      · rw [q2]
        rfl
      · rw [q2]
        exact d3
  refine ⟨.ref s.heap.objs.size, H2, I2, rfl, q _ as H2 hf (fun b u e => g b u (sm b u e)) (g _ _ upd_same) (by omega) fun j t kv hj hkv => ?_⟩
  obtain ⟨vs, hP, ht⟩ := tt t (List.mem_of_getElem? hj)
  obtain ⟨qq, rfl, hq⟩ := hP j kv hj hkv
  exact ⟨qq, ht, g _ _ (sm _ _ hq)⟩
end
end L2
/-! d.get(k, x); d.items() as a value; each[k] += i -/
namespace L2
open PySem PySem.Spec PyProof.Rows
section
variable {X : Cx}
def tDGetT2 (td ty tx : TE) : TE := fun σ H Q => td σ H fun x H1 => ∃ (a : Addr) (kvs : List (List Key × V)), x = .ref a ∧ H1 a = some (.dT kvs) ∧ ty σ H1 fun y H2 => tx σ H2 fun z H3 => ∃ (b : Addr) (k : List Key), y = .ref b ∧ H3 a = some (.dT kvs) ∧ H3 b = some (.tup (k.map kV)) ∧ Q ((valV kvs k).getD z) H3
def tDGetK2 (td ty tx : TE) : TE := fun σ H Q => td σ H fun x H1 => ∃ (a : Addr) (kvs : List (Key × V)), x = .ref a ∧ H1 a = some (.dK kvs) ∧ ty σ H1 fun y H2 => tx σ H2 fun z H3 => ∃ k : Key, y = kV k ∧ H3 a = some (.dK kvs) ∧ Q ((valV kvs k).getD z) H3
variable {o e f : Expr} {apos cpos : Pos} {td ty tx : TE}
theorem pe_dget2T (hu : X.A.units + 1 < cLine) (ho : PE X o td) (he : PE X e ty) (hf : PE X f tx) (m : M2 X o "get" apos e f cpos) : PE X (.Call (.Attribute o "get" apos) [e, f] [] cpos) (tDGetT2 td ty tx) := by
  refine (pe_dget2 hu ho.up he.up hf.up m).imp fun σ H Q q => ?_
  exact ⟨_, q, fun x H1 ⟨a, kvs, e1, h1, q1⟩ => ⟨a, e1, .inr ⟨kvs, .inl h1⟩, _, q1, fun y H2 q2 => ⟨_, q2, fun z H3 ⟨b, k, e2, h3, hb, q3⟩ => ⟨_, .inr ⟨kvs, k, b, .inl h3, e2, hb, rfl⟩, q3⟩⟩⟩⟩
theorem pe_dget2K (hu : X.A.units + 1 < cLine) (ho : PE X o td) (he : PE X e ty) (hf : PE X f tx) (m : M2 X o "get" apos e f cpos) : PE X (.Call (.Attribute o "get" apos) [e, f] [] cpos) (tDGetK2 td ty tx) := by
  refine (pe_dget2 hu ho.up he.up hf.up m).imp fun σ H Q q => ?_
  exact ⟨_, q, fun x H1 ⟨a, kvs, e1, h1, q1⟩ => ⟨a, e1, .inl ⟨kvs, .inl h1⟩, _, q1, fun y H2 q2 => ⟨_, q2, fun z H3 ⟨k, e2, h3, q3⟩ => ⟨_, .inl ⟨kvs, k, .inl h3, e2, rfl⟩, q3⟩⟩⟩⟩
def rItemsTK : V → List V → Hp → VK → Prop := fun x xs H Q => ∃ (a : Addr) (kvs : List (List Key × V)), x = .ref a ∧ xs = [] ∧ H a = some (.dT kvs) ∧ ∀ (p : Addr) H', Fr H p → Same H H' → H' p = some (DX.itemsO p a) → Q (.ref p) H'
theorem mt_itemsTK : MtR X "dict.items" rItemsTK := MtR.imp DX.mt_itemsT fun x xs H Q ⟨a, kvs, e1, e2, h, q⟩ => ⟨a, kvs, e1, e2, h, fun p hp => q p _ hp ((Same.refl H).new hp) upd_same⟩
end
end L2
namespace L2
open PySem PySem.Spec PyProof.Rows
section
variable {X : Cx}
/-- xs[i] by values, from the front -/
def rGetL (K : PySem.W.Frag) : V → V → Hp → VK → Prop := fun x y H Q => ∃ (p : Addr) (xs : List V) (i : Nat) (v : V), x = .ref p ∧ y = .int i ∧ SqL K H p xs ∧ xs[i]? = some v ∧ Q v H
theorem get_listP : PGet X (rGetL X.K) := by
  intro pins s σ H x y v u Q I rx ry ⟨p, xs, i, z, ex, ey, hq, he, q⟩
  subst ex ey
  cases rx
  obtain ⟨t, rfl⟩ := ry
  obtain ⟨its, r, pl, hz⟩ := I.list hq
  obtain ⟨w, ew, rw'⟩ := r.get he
  have hl := r.length
  have hn := line63
  have hi := (List.getElem?_eq_some_iff.mp he).1
  exact wpAny_getItem_list pl.isList (Int.natCast_nonneg i) (by omega) (by rw [Int.toNat_natCast]; simpa using ew) ⟨z, H, I, rw', q⟩
end
end L2
namespace L2
open PySem PySem.Spec PyProof.Rows
/-- a comprehension over a dict of one key, that keeps the key -/
theorem lock_lcT1 {td te : TE} {g : TG} {tt : TT} {vs : List Nat} {σ : St} {H : Hp} {d : Addr} {kv : List Key × V} {Q : VK} (hd : H d = some (.dT [kv])) (hv : ∀ od R, R (.ref d) (upd H d (.frz od (.dT [kv]))) → td σ (upd H d (.frz od (.dT [kv]))) R)
    (hs : ∀ (od : Obj) (q D : Addr) (Nx : Hp → Prop), d ≠ D → H D = none → H q = some (.tup (kv.1.map kV)) → (∀ H', But D (upd (upd H d (.frz od (.dT [kv]))) D (.lst [])) H' → H' D = some (.lst [.ref q]) → Nx H') →
      LcTurn σ vs g tt te D (.ref q) (upd (upd H d (.frz od (.dT [kv]))) D (.lst [])) Nx)
    (k : ∀ q, H q = some (.tup (kv.1.map kV)) → New (.lst [.ref q]) H Q) : tLockE (tLc (iKeys td) (upG g) (upT tt) (upE te) vs) σ H Q := by
  refine ⟨d, _, hd, trivial, fun od => hv od _ ⟨d, od, rfl, .inr ⟨[kv], upd_same, fun D hD => ?_⟩⟩⟩
  have nd : d ≠ D := ne_of_none upd_same hD
  have hD0 : H D = none := by
    rw [upd_ne nd.symm] at hD
    exact hD
  have at_d : ∀ o, upd (upd H d (.frz od (.dT [kv]))) D o d = some (.frz od (.dT [kv])) := fun o => by
    rw [upd_ne nd]
    exact upd_same
  refine lc_it walk_keysT (fun i H' => (i = 0 ∧ H' = upd (upd H d (.frz od (.dT [kv]))) D (.lst [])) ∨ (i = 1 ∧ ∃ q, H q = some (.tup (kv.1.map kV)) ∧ H' D = some (.lst [.ref q]) ∧ H' d = some (.frz od (.dT [kv])) ∧ ∀ b u, b ≠ d → H b = some u → H' b = some u)) (.inl ⟨rfl, rfl⟩) (fun i H' _ p => ?_) (fun i x H' H2 hi p y => ?_) fun H' p => ?_
  · rcases p with ⟨_, rfl⟩ | ⟨_, _, _, _, e, _⟩
    · exact at_d _
    · exact e
  · obtain ⟨rfl, k0, v0, q, e1, rfl, e2⟩ := y
    obtain rfl : i = 0 := by
      have : i < 1 := hi
      omega
    obtain rfl : kv = (k0, v0) := Option.some.inj e1
    rcases p with ⟨_, rfl⟩ | ⟨z, _⟩
    · have nq : q ≠ D := fun z => by
        rw [z, upd_same] at e2
        cases e2
      have nq2 : q ≠ d := fun z => by
        rw [z, at_d] at e2
        cases e2
      have e3 : H q = some (.tup (k0.map kV)) := by
        rw [upd_ne nq, upd_ne nq2] at e2
        exact e2
      exact (hs od q D (fun H5 => (0 + 1 = 0 ∧ H5 = upd (upd H d (.frz od (.dT [(k0, v0)]))) D (.lst [])) ∨ (0 + 1 = 1 ∧ ∃ q, H q = some (.tup (k0.map kV)) ∧ H5 D = some (.lst [.ref q]) ∧ H5 d = some (.frz od (.dT [(k0, v0)])) ∧ ∀ b u, b ≠ d → H b = some u → H5 b = some u)) nd hD0 e3
        fun H5 m5 h5 => .inr ⟨rfl, q, e3, h5, m5 _ _ nd (at_d _), fun b u nb e => m5 _ _ (ne_of_none e hD0) (by rw [upd_ne (ne_of_none e hD0), upd_ne nb]; exact e)⟩).out
    · cases z
  · rcases p with ⟨z, _⟩ | ⟨_, q, hq, h1, h2, h3⟩
    · cases z
    · refine ⟨h2, k q hq D _ hD0 (fun b u e => ?_) (by rw [upd_ne nd.symm]; exact h1)⟩
      by_cases e1 : b = d
      · rw [e1] at e ⊢
        rw [upd_same, ← e, hd]
      · rw [upd_ne e1]
        exact h3 b u e1 e
end L2

/-! dicts with plain keys: a display of one key, items() walked under the lock (behind t_dt) -/
namespace L2
open PySem PySem.Spec PyProof.Rows
section
variable {X : Cx}
/-- {k: v}, the key an int or a text -/
def tDispK1 (tk tv : TE) : TE := fun σ H Q => ∀ (p : Addr) (H1 : Hp), Fr H p → Same H H1 → H1 p = some (.dK []) → tk σ H1 fun x H2 => tv σ H2 fun y H3 => ∃ k : Key, x = kV k ∧ H3 p = some (.dK []) ∧ Put p (.dK [(k, y)]) H3 (Q (.ref p))
theorem pe_dispK1 {e f : Expr} {tk tv : TE} {pos : Pos} (he : PE X e tk) (hf : PE X f tv) : PE X (.Dict [some e] [f] pos) (tDispK1 tk tv) := by
  refine (pe_disp (pps_cons he.up hf.up pps_nil) rfl rfl (fun z => by cases z) (Nat.le_of_ble_eq_true rfl)).imp fun σ H Q q p hp => ?_
  refine ⟨_, q p _ hp ((Same.refl H).new hp) upd_same, fun x H1 r1 => ⟨_, r1, fun y H2 r2 => ?_⟩⟩
  obtain ⟨k, e1, h2, pq⟩ := r2
  exact ⟨h2, [(k, y)], by rw [e1]; rfl, Nat.le_of_ble_eq_true rfl, pq.out⟩
end
section
variable {td : TE} {g : TG} {tb : TS} {D : Ends} {σ : St} {H : Hp} {d : Addr} {kvs : List (Key × V)}
/-- for k, v in d.items(), plain keys -/
theorem lock_itemsK (hd : H d = some (.dK kvs)) (hv : ∀ od Q, Q (.ref d) (upd H d (.frz od (.dK kvs))) → td σ (upd H d (.frz od (.dK kvs))) Q) (Pv : Obj → Nat → St → Hp → Prop)
    (h0 : ∀ od, Pv od 0 σ (upd H d (.frz od (.dK kvs)))) (hG : ∀ od i σ' H', Pv od i σ' H' → H' d = some (.frz od (.dK kvs)))
    (hs : ∀ od i k v T σ' H' H2, kvs[i]? = some (k, v) → Pv od i σ' H' → Fr H' T → Same H' H2 → H2 T = some (.tup [kV k, v]) →
      g (.ref T) σ' H2 fun σ2 H3 => tb { lkD D d od (.dK kvs) with nx := Pv od (i + 1), ct := Pv od (i + 1), bk := (lkD D d od (.dK kvs)).nx } σ2 H3)
    (he : ∀ od σ' H', Pv od kvs.length σ' H' → D.nx σ' (upd H' d (.dK kvs))) : tLock (tFor (iItems td) g tb) D σ H := by
  refine ⟨d, _, hd, trivial, fun od => hv od _ ⟨d, od, kvs, rfl, upd_same, ?_⟩⟩
  refine for_it walk_items (Pv od) (h0 od) (fun i σ' H' _ p => hG od i σ' H' p) (fun i x σ' H' H2 hi p y => ?_) fun σ' H' p => ⟨hG od _ σ' H' p, he od σ' H' p⟩
  obtain ⟨T, u, v, rfl, hT, rfl, e1, e2⟩ := y
  dsimp only at e1 e2
  cases e3 : kvs[i]? with
  | none =>
    rw [e3] at e1
    cases e1
  | some kv =>
    rw [e3] at e1 e2
    obtain rfl := Option.some.inj e1
    obtain rfl := Option.some.inj e2
    exact hs od i kv.1 kv.2 T σ' H' _ e3 p hT ((Same.refl H').new hT) upd_same
end
end L2

/-! a display of plain keys, any number up to 15, with the heap behind (behind t_dt) -/
namespace L2
open PySem PySem.Spec PyProof.Rows
def ups (trs : List (TE × TE)) : List (TE × TE) := trs.map fun t => (upE t.1, upE t.2)
theorem pairs_up : ∀ {trs : List (TE × TE)} {σ : St} {H : Hp} {Q Q' : List (V × V) → Hp → Prop}, tPairs trs σ H Q → (∀ ps H', Q ps H' → Q' ps H') → tPairs (ups trs) σ H Q'
  | [], _, _, _, _, h, k => k _ _ h
  | (_, _) :: _, _, _, _, _, h, k => ⟨_, h, fun _ _ r1 => ⟨_, r1, fun _ _ r2 => pairs_up r2 fun ps H' q => k _ _ q⟩⟩
def PPsK (X : Cx) (pos : Pos) (keys : List (Option Expr)) (values : List Expr) (trs : List (TE × TE)) : Prop := PPs X pos keys values (ups trs)
theorem ppsk_nil {X : Cx} {pos : Pos} : PPsK X pos [] [] [] := pps_nil
theorem ppsk_cons {X : Cx} {pos : Pos} {k v : Expr} {ks : List (Option Expr)} {vs : List Expr} {tk tv : TE} {trs : List (TE × TE)} (hk : PE X k tk) (hv : PE X v tv) (hr : PPsK X pos ks vs trs) :
    PPsK X pos (some k :: ks) (v :: vs) ((tk, tv) :: trs) := pps_cons hk.up hv.up hr
def tDispKn (trs : List (TE × TE)) : TE := fun σ H Q => ∀ (p : Addr) (H1 : Hp), Fr H p → Same H H1 → H1 p = some (.dK []) → tPairs trs σ H1 fun ps H2 => H2 p = some (.dK []) ∧ ∃ kvs : List (Key × V), ps = kvs.map (fun kv => (kV kv.1, kv.2)) ∧ kvs.length ≤ 15 ∧ Put p (.dK (mergeK [] kvs)) H2 (Q (.ref p))
theorem pe_dispKn {X : Cx} {pos : Pos} {keys : List (Option Expr)} {values : List Expr} {trs : List (TE × TE)} (h : PPsK X pos keys values trs) (hall : keys.all (·.isSome) = true := by rfl) (hl : keys.length = values.length := by rfl) (h0 : keys ≠ [] := by intro z; cases z)
    (h15 : keys.length ≤ 15 := by exact Nat.le_of_ble_eq_true rfl) : PE X (.Dict keys values pos) (tDispKn trs) :=
  (pe_disp h hall hl h0 h15).imp fun σ H Q q p hp => pairs_up (q p _ hp ((Same.refl H).new hp) upd_same) fun ps H' ⟨h2, kvs, e1, e2, pq⟩ => ⟨h2, kvs, e1, e2, pq.out⟩
end L2

/-! ### lists of lists of the same things -/
namespace L2
open PySem PySem.Spec PyProof.Rows
def plainV (z : V) : Prop := flatB z = true ∨ ∃ a, z = .ref a
theorem plain_refs (xs : List Addr) : ∀ z ∈ xs.map V.ref, plainV z := fun z hz => by
  obtain ⟨a, _, rfl⟩ := List.mem_map.mp hz
  exact .inr ⟨a, rfl⟩
theorem eqAt_plain {A : Around} {s : Shared} {v : V} {u u' : Value} (h : plainV v) (r : RelV v u) (r' : RelV v u') : SeqAt.EqAt A s u u' true := by
  rcases h with h | ⟨a, rfl⟩
  · exact eqAt_same r r' h
  · cases (show u = Value.ref a from r)
    cases (show u' = Value.ref a from r')
    exact SeqAt.EqAt.same _
theorem pair_at {F : V → V → Prop} : ∀ {xs ys : List V} {us ws : List Value}, Paired F xs ys → Vals xs us → Vals ys ws → ∀ j (h1 : j < us.length) (h2 : j < ws.length), ∃ x y, F x y ∧ RelV x us[j] ∧ RelV y ws[j]
  | _, _, _, _, .nil, .nil, .nil, j, h1, _ => absurd h1 (Nat.not_lt_zero j)
  | _, _, _, _, .cons f _, .cons a _, .cons b _, 0, _, _ => ⟨_, _, f, a, b⟩
  | _, _, _, _, .cons _ p, .cons _ r, .cons _ q, j + 1, h1, h2 => pair_at p r q j (Nat.lt_of_succ_lt_succ h1) (Nat.lt_of_succ_lt_succ h2)
theorem paired_self {P : V → Prop} : ∀ {zs : List V}, (∀ z ∈ zs, P z) → Paired (fun x y => x = y ∧ P x) zs zs
  | [], _ => .nil
  | z :: zs, h => .cons ⟨rfl, h z List.mem_cons_self⟩ (paired_self fun u hu => h u (List.mem_cons_of_mem _ hu))
def Alk (K : PySem.W.Frag) (H : Hp) (x y : V) : Prop := (x = y ∧ plainV x) ∨ ∃ a b zs, x = .ref a ∧ y = .ref b ∧ SqL K H a zs ∧ SqL K H b zs ∧ ∀ z ∈ zs, plainV z
section
variable {X : Cx} {pins : List (Addr × Obj)} {σ : St} {H : Hp} {s : Shared}
theorem all_yes (n : Nat) : ((List.range n).all fun _ => true) = true := List.all_eq_true.mpr fun _ _ => rfl
theorem eqAt_alk (I : Inv X pins σ H s) {A : Around} (hu : A.units < cLine) {x y : V} {v u : Value} (h : Alk X.K H x y) (rx : RelV x v) (ry : RelV y u) : SeqAt.EqAt A s v u true := by
  rcases h with ⟨rfl, p⟩ | ⟨a, b, zs, rfl, rfl, ha, hb, hz⟩
  · exact eqAt_plain p rx ry
  · cases (show v = Value.ref a from rx)
    cases (show u = Value.ref b from ry)
    by_cases e : a = b
    · subst e
      exact SeqAt.EqAt.same _
    · obtain ⟨us, r1, p1, _⟩ := I.list ha
      obtain ⟨ws, r2, p2, _⟩ := I.list hb
      have hsz : us.toArray.size = ws.toArray.size := by
        rw [List.size_toArray, List.size_toArray, ← r1.length, ← r2.length]
      have q := SeqAt.RcAt.lists (A := A) (e := fun _ => true) p1.isList p2.isList hsz hu fun j h1 h2 => by
        obtain ⟨x, y, ⟨exy, p⟩, q1, q2⟩ := pair_at (paired_self hz) r1 r2 j (by simpa using h1) (by simpa using h2)
        subst exy
        have := eqAt_plain (A := A.in1) (s := s) p q1 q2
        simpa using this
      rw [all_yes] at q
      exact SeqAt.EqAt.of_refs e q
theorem ne_alk (I : Inv X pins σ H s) {A : Around} (hu : A.units + 1 < cLine) {a b : Addr} {xs ys : List V} (ha : SqL X.K H a xs) (hb : SqL X.K H b ys) (hp : Paired (Alk X.K H) xs ys) :
    SeqAt.RcAt A s (.ref a) (.ref b) true ∧ SeqAt.RcNeAt A s (.ref a) (.ref b) false := by
  obtain ⟨us, r1, p1, _⟩ := I.list ha
  obtain ⟨ws, r2, p2, _⟩ := I.list hb
  have hsz : us.toArray.size = ws.toArray.size := by
    rw [List.size_toArray, List.size_toArray, ← r1.length, ← r2.length]
    exact Paired.length hp
  have he : ∀ j (h1 : j < us.toArray.size) (h2 : j < ws.toArray.size), SeqAt.EqAt A.in1 s us.toArray[j] ws.toArray[j] true := fun j h1 h2 => by
    obtain ⟨x, y, f, q1, q2⟩ := pair_at hp r1 r2 j (by simpa using h1) (by simpa using h2)
    have := eqAt_alk I (A := A.in1) (by show A.units + 1 < cLine; exact hu) f q1 q2
    simpa using this
  have q1 := SeqAt.RcAt.lists (A := A) (e := fun _ => true) p1.isList p2.isList hsz (by omega) he
  have q2 := SeqAt.RcNeAt.lists (A := A) (e := fun _ => true) p1.isList p2.isList hsz (by omega) he
  rw [all_yes] at q1 q2
  exact ⟨q1, q2⟩
end
section
variable {X : Cx}
def rEqK (K : PySem.W.Frag) : R2 := fun x y H Q => ∃ a b xs ys, x = .ref a ∧ y = .ref b ∧ SqL K H a xs ∧ SqL K H b ys ∧ Paired (Alk K H) xs ys ∧ Q (.bl true) H
def rNeK (K : PySem.W.Frag) : R2 := fun x y H Q => ∃ a b xs ys, x = .ref a ∧ y = .ref b ∧ SqL K H a xs ∧ SqL K H b ys ∧ Paired (Alk K H) xs ys ∧ Q (.bl false) H
theorem op_eqK (hu : X.A.units + 64 < cLine) : OpR X (compareOp .Eq) (rEqK X.K) := by
  intro pins s σ H x y v u Q I rx ry h
  obtain ⟨a, b, xs, ys, rfl, rfl, ha, hb, hp, q⟩ := h
  cases (show v = Value.ref a from rx)
  cases (show u = Value.ref b from ry)
  exact (ne_alk I (A := X.A) (by omega) ha hb hp).1 _ _ _ _ ⟨.bl true, H, I, rfl, q⟩
theorem op_neK (hu : X.A.units + 64 < cLine) : OpR X (compareOp .NotEq) (rNeK X.K) := by
  intro pins s σ H x y v u Q I rx ry h
  obtain ⟨a, b, xs, ys, rfl, rfl, ha, hb, hp, q⟩ := h
  cases (show v = Value.ref a from rx)
  cases (show u = Value.ref b from ry)
  exact (ne_alk I (A := X.A) (by omega) ha hb hp).2 _ _ _ _ ⟨.bl false, H, I, rfl, q⟩
end
end L2

/-! ### C() of a class that has no __init__ of its own -/
namespace L2
open PySem PySem.Spec PyProof.Rows
/-- what the class at C must say -/
structure MkO (K : PySem.W.Frag) (C : Addr) : Prop where
  makes : PySem.W.makesIn K C = true
  init : PySem.W.findIn K (.ref C) "__init__" = some (some (.builtin "object.__init__"))
  kp : PySem.W.keepIn K (.ref C) = true
  ob : PySem.W.subIn K (.ref C) (.type "object") = some true
def mkOB (K : PySem.W.Frag) (x : Str) : Bool := PySem.W.makesIn K (He.ga K x) && (decide (PySem.W.findIn K (.ref (He.ga K x)) "__init__" = some (some (.builtin "object.__init__"))) && (PySem.W.keepIn K (.ref (He.ga K x)) && decide (PySem.W.subIn K (.ref (He.ga K x)) (.type "object") = some true)))
theorem mkOB_ok {K : PySem.W.Frag} {x : Str} (h : mkOB K x = true) : MkO K (He.ga K x) := by
  obtain ⟨h1, h⟩ := He.ba h
  obtain ⟨h2, h⟩ := He.ba h
  obtain ⟨h3, h4⟩ := He.ba h
  exact ⟨h1, of_decide_eq_true h2, h3, of_decide_eq_true h4⟩
def insB (K : PySem.W.Frag) (x : Str) : Bool := decide (PySem.W.findIn K (.ref (He.ga K x)) "__class__" = some (some (.builtin "object.__class__"))) && (decide (PySem.W.specialIn K (.builtin "object.__class__") "__get__" = some (some (.builtin "getset_descriptor.__get__"))) &&
  (decide (PySem.W.takesIn K (.builtin "object.__class__") = some true) && (decide (PySem.W.mroIn K (He.ga K x) (.type "object") = some true) && decide (PySem.W.kitOne K (.ref (He.ga K x)) (.ref (He.ga K x)) = some true))))
theorem insB_ok {K : PySem.W.Frag} {x : Str} (c : Cls K (He.ga K x)) (h : insB K x = true) : C8.InsC K (He.ga K x) := by
  obtain ⟨h1, h⟩ := He.ba h
  obtain ⟨h2, h⟩ := He.ba h
  obtain ⟨h3, h⟩ := He.ba h
  obtain ⟨h4, h5⟩ := He.ba h
  exact ⟨c, of_decide_eq_true h1, of_decide_eq_true h2, of_decide_eq_true h3, of_decide_eq_true h4, of_decide_eq_true h5⟩
def tMakeO (C : Addr) : TE := fun _ H Q => ∀ (x dx : Addr) (H2 : Hp), Fr H x → Same H H2 → H2 x = some (.ins C dx []) → Q (.ref x) H2
section
variable {X : Cx} {x : Str} {C : Addr} {p pos : Pos}
theorem pe_makeO (M : MkO X.K C) (hg : Gl X x) (hm : X.mg x = some (.ref C)) (hdb : (x == ("__debug__" : Str)) = false := by decide) : PE X (.Call (.Name x p) [] [] pos) (tMakeO C) := by
  constructor
  intro pins s σ H Q I h
  apply wpAny_Call_Name_kw
  apply ld_glob I hg hm _ hdb
  apply PySem.W.callWith_K0 I.kIn M.kp
  have I2 := Inv.made (C := C) I
  have nx : H (s.heap.objs.size + 1) = none := I.hok.fresh (Nat.le_succ _)
  have nd : H s.heap.objs.size = none := I.hok.fresh (Nat.le_refl _)
  have q := h (s.heap.objs.size + 1) s.heap.objs.size _ nx (((Same.refl H).new (o := HO.own (s.heap.objs.size + 1)) nd).new (by rw [upd_ne (Nat.ne_of_gt (Nat.lt_succ_self _))]; exact nx)) upd_same
  refine wpAny_call (make_map0 I.kIn M.makes M.init (fun self => PySem.W.Looks.of_pure (PySem.W.oi_bind self)) ?_)
  have L : PySem.W.Looks (model X.prog X.w) ((s.heap.push PySem.W.emptyDict).push (PySem.W.instObj C s.heap.objs.size)) (isInstance (.ref (s.heap.objs.size + 1)) (.type "object")) true := by
    obtain ⟨_, _, _, e, _⟩ := (show ObjOk X.prog X.w _ _ _ (.ins C s.heap.objs.size []) from I2.hok _ _ upd_same)
    have T : PySem.W.Looks (model X.prog X.w) ((s.heap.push PySem.W.emptyDict).push (PySem.W.instObj C s.heap.objs.size)) (typeOf (.ref (s.heap.objs.size + 1))) (.ref C) := fun A Q E s k q => wpAny_typeOf_ref (k _ _ e) q
    exact T.andThen (PySem.W.looks_subIn I2.kIn M.ob)
  refine codeAny_call_builtin (by decide +kernel) PySem.F.entry_object_init ?_
  refine PySem.W.check_slot (i := "object.__init__") (owner := "object") (n := "__init__") (rest := []) (by decide +kernel) (by decide +kernel) L (by unfold argsOk; kernel_rfl) ?_
  exact wpAny_pure ⟨rfl, ⟨.ref (s.heap.objs.size + 1), _, I2, rfl, q⟩⟩
end
end L2

/-! texts compared by <, an own class made in a try, sorted of tuples (int, text, int, text) (imports: KE.SortData, HandS.ExcOwn) -/
namespace L2
open PySem PySem.Spec PyProof.Rows
section
variable {X : Cx}
def rLtS : R2 := fun x y H Q => ∃ a b : Str, x = .str a ∧ y = .str b ∧ Q (.bl (decide (a.cps.toList < b.cps.toList))) H
theorem op_ltS : OpR X (compareOp .Lt) rLtS := by
  rintro pins s σ H x y v u Q I rx ry ⟨a, b, rfl, rfl, q⟩
  obtain ⟨t, rfl⟩ := rx
  obtain ⟨t', rfl⟩ := ry
  exact PyProof.Rows.lt_str ⟨.bl _, H, I, rfl, q⟩
end
section
variable {X : Cx} {CX : CXT} {k : Nat} {f C : Addr} {fd : FuncData} {ps : List Str} {sp : Sp} {dvs : List V} {ds : List Value} {E : St → XK} {x : Str} {p pos : Pos} {e : Expr} {es : List Expr} {t : TA}
/-- the __init__ may raise, and a clause about it catches that -/
theorem made_at {pins : List (Addr × Obj)} {σ : St} {H : Hp} {s : Shared} {Q : VK} {us : List Value} {vs : List V} (M : Mk X.K C f) (F : FnOk X.prog X.w X.K X.mg X.base CX k f fd ps sp) (hr : Room (k + 1) X.A) (hb : Binds X.K fd ps ds) (hd : Vals dvs ds)
    (hx : PassesAt CX X σ (E σ)) (I : Inv X pins σ H s) (r : Vals vs us)
    (h : ∀ a b, H a = none → H b = none → b ≠ a → sp (.ref a :: (vs ++ dvs)) (upd (upd H b (.own a)) a (.ins C b [])) (fun v G => v = .non ∧ Q (.ref a) G) (E σ)) :
    wpAny (model X.prog X.w) X.A (call (.ref C) us) (EP X pins σ Q) X.xe s := by
  have n0 := I.hok.fresh (Nat.le_refl s.heap.objs.size)
  have n1 := I.hok.fresh (Nat.le_succ s.heap.objs.size)
  have hq := h _ _ n1 n0 (Nat.ne_of_lt (Nat.lt_succ_self _))
  have J := Inv.made (C := C) I
  have rr : Vals (V.ref (s.heap.objs.size + 1) :: (vs ++ dvs)) (Value.ref (s.heap.objs.size + 1) :: (us ++ ds)) := .cons rfl (r.append hd)
  have len : (Value.ref (s.heap.objs.size + 1) :: us ++ ds).length = ps.length := by
    have z := rr.length
    rw [F.len _ _ _ _ hq] at z
    exact z.symm
  have body := F.run _ X.stack _ _ ⟨Value.ref (s.heap.objs.size + 1) :: us, []⟩ (Value.ref (s.heap.objs.size + 1) :: (us ++ ds)) _ _ (E σ) (hr.make C us []) (J.env0.make C us []) (hb _ (Value.ref (s.heap.objs.size + 1) :: us) J.kIn len) rr hq
  refine wpAny_call (make_map (f := f) I.kIn M.makes M.init (beq_iff_eq.mp M.fn) (codeAny_mono body fun z s' hz => ?_))
  match z, hz with
  | .error z, hz => exact hx pins _ _ z s' J hz
  | .ok (.ret u), hz =>
    obtain ⟨v, G, J2, rv, ev, q⟩ := J.after hz
    subst ev
    exact ⟨rv, ⟨V.ref (s.heap.objs.size + 1), G, J2, rfl, q⟩⟩
  | .ok .next, hz => exact False.elim hz
  | .ok .brk, hz => exact False.elim hz
  | .ok .cont, hz => exact False.elim hz
def tMakeSK (C : Addr) (sp : Sp) (dvs : List V) (E : St → XK) (t : TA) : TE := fun σ H Q => t σ H fun vs H1 => ∀ (a b : Addr) (H2 : Hp), Fr H1 a → Same H1 H2 → H2 a = some (.ins C b []) →
  sp (.ref a :: (vs ++ dvs)) H2 (fun v H3 => v = .non ∧ Q (.ref a) H3) (E σ)
theorem pe_makeSK (M : Mk X.K C f) (F : FnOk X.prog X.w X.K X.mg X.base CX k f fd ps sp) (hr : Room (k + 1) X.A) (hg : Gl X x) (hm : X.mg x = some (.ref C)) (hb : Binds X.K fd ps ds) (hd : Vals dvs ds) (hx : ∀ σ, PassesAt CX X σ (E σ))
    (ha : PA X (e :: es) t) (hdb : (x == ("__debug__" : Str)) = false := by decide) (he : starEach (e :: es) X.env = (false, eval e X.env) :: starEach es X.env := by rfl) (hpl : (backTo pos (starEach es X.env)).any (·.1) = false := by rfl) :
    PE X (.Call (.Name x p) (e :: es) [] pos) (tMakeSK C sp dvs E t) := by
  constructor
  intro pins s σ H Q I h
  refine wpAny_Call_Name_kw (ld_glob I hg hm ?_ hdb)
  refine PySem.W.callWith_K (h₀ := X.base) I.ok.mod.kin M.kp (thn (ha.up.run pos pins s σ H _ I ⟨_, h, fun _ _ z => z⟩) fun us s1 ⟨vs, H1, I1, r, q⟩ => ⟨I1.kIn, ?_⟩) he hpl
  refine made_at M F hr hb hd (hx σ) I1 r fun a b ha hb ne => q a b _ ha ?_ upd_same
  exact ((Same.refl H1).new hb).new (by rw [upd_ne ne.symm]; exact ha)
end
section
variable {X : Cx} {CX : CXT} {k : Nat} {f C : Addr} {fd : FuncData} {ps : List Str} {sp : Sp} {E : St → XK} {x m : Str} {p pos apos : Pos} {e o : Expr} {es : List Expr} {ta : TE} {t : TA}
def tMethE (C : Addr) (m : Str) (sp : Sp) (E : St → XK) (ta : TE) (t : TA) : TE := fun σ H Q => ta σ H fun x H1 => ∃ a dx fs, x = .ref a ∧ H1 a = some (.ins C dx fs) ∧ fs.lookup m = none ∧ t σ H1 fun vs H2 => sp (x :: vs) H2 Q (E σ)
theorem pe_methE {pl : Sem Bool} (he : PE X o ta) (c : Cls X.K C) (hm : Meth X.K C m f) (F : FnOk X.prog X.w X.K X.mg X.base CX k f fd ps sp) (hr : Room k X.A) (hb : Binds X.K fd ps []) (hx : ∀ σ, PassesAt CX X σ (E σ)) (ha : PA X (e :: es) t)
    (hst : starEach (e :: es) X.env = (false, eval e X.env) :: starEach es X.env := by rfl) (hpl : (backTo pos (starEach es X.env)).any (·.1) = false := by rfl)
    (ht : eval (.Call (.Attribute o m apos) (e :: es) [] pos) X.env = (do
      let ov ← eval o X.env
      standAt apos.atName
      let (f, first) ← holding [ov] (getMethod ov m pl)
      callWith pos f first (backTo pos (starEach (e :: es) X.env)) (backToKw pos (keywordEach [] X.env))) := by rfl) :
    PE X (.Call (.Attribute o m apos) (e :: es) [] pos) (tMethE C m sp E ta t) := by
  refine ⟨fun pins s σ H Q I h => ?_⟩
  refine PySem.W.methodCall_KW (pl := pl) (thn (he.run pins s σ H _ I h) fun u s1 ⟨x, H1, I1, rx, a, dx, fs, ex, ea, l, q⟩ => ?_) ht
  subst ex
  obtain rfl : u = Value.ref a := rx
  refine getmeth_ok I1 ea c hm l ?_
  refine PySem.W.callWith_K (first := [.ref a]) (h₀ := X.base) I.ok.mod.kin hm.kp (thn (ha.run pos pins s1 σ H1 _ I1 q) fun us s2 ⟨vs, H2, I2, r, q2⟩ => ⟨I2.kIn, ?_⟩) hst hpl
  exact run_fnS (us := .ref a :: us) (vs := .ref a :: vs) F hr hb (hx σ) I2 (.cons rfl r) q2
end
/-! ### strict orders -/
structure Sto {α : Type} (lt : α → α → Prop) : Prop where
  irr : ∀ a, ¬ lt a a
  tr : ∀ {a b c}, lt a b → lt b c → lt a c
  tri : ∀ a b, lt a b ∨ a = b ∨ lt b a
theorem Sto.int : Sto (fun a b : Int => a < b) := ⟨fun a => Int.lt_irrefl a, fun h k => Int.lt_trans h k, fun a b => by omega⟩
theorem Sto.nats : Sto (fun a b : List Nat => a < b) := ⟨fun a => List.lt_irrefl a, fun h k => List.lt_trans h k, fun a b => by
  by_cases h : a < b
  · exact .inl h
  · by_cases k : b < a
    · exact .inr (.inr k)
    · exact .inr (.inl (List.le_antisymm (List.not_lt.mp k) (List.not_lt.mp h)))⟩
theorem Sto.on {α β : Type} {lt : α → α → Prop} (h : Sto lt) (f : β → α) (inj : ∀ a b, f a = f b → a = b) : Sto (fun a b => lt (f a) (f b)) := ⟨fun a => h.irr _, fun p q => h.tr p q, fun a b => (h.tri (f a) (f b)).imp id fun z => z.imp (inj _ _) id⟩
def lexP {α β : Type} (l1 : α → α → Prop) (l2 : β → β → Prop) (p q : α × β) : Prop := l1 p.1 q.1 ∨ (p.1 = q.1 ∧ l2 p.2 q.2)
theorem Sto.lex {α β : Type} {l1 : α → α → Prop} {l2 : β → β → Prop} (h : Sto l1) (k : Sto l2) : Sto (lexP l1 l2) := by
  refine ⟨?_, ?_, ?_⟩
  · rintro ⟨a, b⟩ (z | ⟨_, z⟩)
    · exact h.irr _ z
    · exact k.irr _ z
  · rintro ⟨a, b⟩ ⟨c, d⟩ ⟨e, f⟩ (x | ⟨x, y⟩) (z | ⟨z, u⟩)
    · exact .inl (h.tr x z)
    · cases (show c = e from z)
      exact .inl x
    · cases (show a = c from x)
      exact .inl z
    · obtain rfl : a = c := x
      obtain rfl : a = e := z
      exact .inr ⟨rfl, k.tr y u⟩
  · rintro ⟨a, b⟩ ⟨c, d⟩
    rcases h.tri a c with z | rfl | z
    · exact .inl (.inl z)
    · rcases k.tri b d with z | rfl | z
      · exact .inl (.inr ⟨rfl, z⟩)
      · exact .inr (.inl rfl)
      · exact .inr (.inr (.inr ⟨rfl, z⟩))
    · exact .inr (.inr (.inl z))
theorem str_inj (a b : Str) (h : a.cps.toList = b.cps.toList) : a = b := by
  obtain ⟨⟨x⟩⟩ := a
  obtain ⟨⟨y⟩⟩ := b
  cases (show x = y from h)
  rfl
def ltStr (a b : Str) : Prop := a.cps.toList < b.cps.toList
theorem Sto.str : Sto ltStr := Sto.nats.on (fun s : Str => s.cps.toList) str_inj
/-! ### sorted of tuples -/
structure Row4 where
  t : Int
  h : Str
  i : Int
  r : Str
def Row4.vs (e : Row4) : List V := [.int e.t, .str e.h, .int e.i, .str e.r]
def Row4.d (e : Row4) : PyData := .tuple [.int e.t, .str e.h, .int e.i, .str e.r]
def lt4 (x y : Row4) : Prop := lexP (fun a b : Int => a < b) (lexP ltStr (lexP (fun a b : Int => a < b) ltStr)) (x.t, x.h, x.i, x.r) (y.t, y.h, y.i, y.r)
theorem Sto.four : Sto lt4 := (Sto.int.lex (Sto.str.lex (Sto.int.lex Sto.str))).on (fun x : Row4 => (x.t, x.h, x.i, x.r)) fun a b e => by
  obtain ⟨a1, a2, a3, a4⟩ := a
  obtain ⟨b1, b2, b3, b4⟩ := b
  cases e
  rfl
theorem dataLt4 (x y : Row4) : PySem.W.dataLt x.d y.d = true ↔ lt4 x y := by
  unfold Row4.d
  rw [PySem.W.dataLt_tuple, PySem.W.dataLt_cons (by simp [PySem.W.alike]), PySem.W.dataLt_cons (by simp [PySem.W.alike]), PySem.W.dataLt_cons (by simp [PySem.W.alike]), PySem.W.dataLt_cons (by simp [PySem.W.alike]), PySem.W.dataLt_int, PySem.W.dataLt_int, PySem.W.dataLt_str, PySem.W.dataLt_str]
  rw [show PyProof.Rows.lexLt PyProof.Rows.itemOrd (PySem.W.keyToksAll []) (PySem.W.keyToksAll []) = false from PyProof.Rows.lex_irrefl _]
  simp only [PyData.eqv, beq_iff_eq]
  unfold lt4 lexP ltStr
  have irr : ∀ l : List Nat, ¬ l < l := fun l => List.lt_irrefl l
  by_cases h1 : x.t = y.t <;> by_cases h2 : x.h = y.h <;> by_cases h3 : x.i = y.i <;> by_cases h4 : x.r = y.r <;> simp [h1, h2, h3, h4, irr]
def rSortQ (K : PySem.W.Frag) : List V → Hp → VK → Prop := fun vs H Q => ∃ (a : Addr) (bs : List (Addr × Row4)), vs = [.ref a] ∧ SqL K H a (bs.map fun b => V.ref b.1) ∧ (∀ b ∈ bs, H b.1 = some (.tup b.2.vs)) ∧
  ∀ (out : List (Addr × Row4)), out.Perm bs → out.Pairwise (fun x y => ¬ lt4 y.2 x.2) → New (.lst (out.map fun b => V.ref b.1)) H Q
section
variable {X : Cx}
theorem refs4 {bs : List (Addr × Row4)} {us : List Value} (r : PySem.W.EachIs (fun (v : Value) (b : Addr × Row4) => v = .ref b.1) us bs) : Vals (bs.map fun b => V.ref b.1) us := by
  induction r with
  | nil => exact .nil
  | cons h _ ih => exact .cons h ih
theorem of_refs4 {bs : List (Addr × Row4)} {us : List Value} (r : Vals (bs.map fun b => V.ref b.1) us) : PySem.W.EachIs (fun (v : Value) (b : Addr × Row4) => v = .ref b.1) us bs := by
  induction bs generalizing us with
  | nil =>
    cases r
    exact PySem.W.EachIs.nil
  | cons t ts ih =>
    cases r with
    | cons h r => exact PySem.W.EachIs.cons h (ih r)
theorem reads4 {pins : List (Addr × Obj)} {σ : St} {H : Hp} {s : Shared} (I : Inv X pins σ H s) {bs : List (Addr × Row4)} (hb : ∀ b ∈ bs, H b.1 = some (.tup b.2.vs)) {us : List Value} (r : PySem.W.EachIs (fun (v : Value) (b : Addr × Row4) => v = .ref b.1) us bs) :
    PySem.W.EachIs (fun (v : Value) (b : Addr × Row4) => ∃ as, PySem.Reads s.heap v b.2.d as) us bs := by
  induction r with
  | nil => exact .nil
  | @cons v b _ _ h _ ih =>
    refine .cons ?_ (ih fun b h => hb b (List.mem_cons_of_mem _ h))
    subst h
    have hd : Dp X.K H (.ref b.1) b.2.d := .tup (.of (hb b List.mem_cons_self)) (.cons (.int _) (.cons (.str _) (.cons (.int _) (.cons (.str _) .nil))))
    exact Dp.reads I b.2.d (.ref b.1) _ hd rfl
theorem cr_sortQ (hu : X.A.units + 64 < cLine) : CallR X (.builtin "sorted") (rSortQ X.K) := by
  rintro pins s σ H xs us Q I r ⟨a, bs, rfl, hs, hbs, q⟩
  obtain rfl := Vals.ref1 r
  obtain ⟨its, rv, hl, hz⟩ := I.list hs
  rw [List.length_map] at hz
  have e1 := of_refs4 rv
  refine PySem.W.sorted_data (β := Addr × Row4) (enc := fun b => b.2.d) (R := fun v b => v = .ref b.1) hl.isList e1 (reads4 I hbs e1) (PySem.W.AllAlike.of fun b b' => by simp [PySem.W.alike, PySem.W.alikeAll, Row4.d]) (PySem.W.Sortable.tuples fun b => ⟨_, _, rfl⟩) hz (fun b _ => ?_) ?_
  · have : PyData.depth b.2.d = 1 := rfl
    omega
  · intro out hlen hout
    obtain ⟨ep, he⟩ := PyProof.Rows.sortedAll_at s.heap its (List.toArray out)
    have hp := List.mergeSort_perm bs (PySem.W.dataLe false fun b : Addr × Row4 => b.2.d)
    have hlen2 : ((bs.mergeSort (PySem.W.dataLe false fun b => b.2.d)).map fun b => V.ref b.1).length ≤ sizeLine := by
      rw [List.length_map, List.length_mergeSort]
      exact hz
    refine ⟨.ref _, upd H (s.heap.objs.size + 1) (.lst ((bs.mergeSort (PySem.W.dataLe false fun b => b.2.d)).map fun b => V.ref b.1)), I.laid (t' := s.toks) (fun _ _ => PyProof.Rows.sortedAll_old) (Nat.le_succ _) ⟨hlen2, _, ep, refs4 hout, he⟩, rfl, ?_⟩
    refine (q _ hp ?_).out _ (I.hok.fresh (Nat.le_succ _))
    have key : ∀ x y : Addr × Row4, PySem.W.dataLe false (fun b : Addr × Row4 => b.2.d) x y = true ↔ ¬ lt4 y.2 x.2 := fun x y => by
      rw [← dataLt4]
      show (!PySem.W.dataLt y.2.d x.2.d) = true ↔ _
      simp
    refine (List.pairwise_mergeSort (le := PySem.W.dataLe false fun b : Addr × Row4 => b.2.d) (fun x y z h1 h2 => ?_) (fun x y => ?_) bs).imp fun {x y} h => (key x y).mp h
    · rw [key] at h1 h2 ⊢
      intro h3
      rcases Sto.four.tri y.2 x.2 with c | c | c
      · exact h1 c
      · rw [c] at h2
        exact h2 h3
      · exact h2 (Sto.four.tr h3 c)
    · rw [Bool.or_eq_true, key, key]
      rcases Sto.four.tri x.2 y.2 with c | c | c
      · exact .inl fun d => Sto.four.irr _ (Sto.four.tr c d)
      · rw [c]
        exact .inl (Sto.four.irr _)
      · exact .inr fun d => Sto.four.irr _ (Sto.four.tr c d)
end
end L2

local macro_rules | `(tactic| walk_at "hp") => `(tactic| first
  | assumption
  | (apply L2.Same.at; assumption; walk_at "hp")
  | (apply L2.But.at; assumption; (walk_at "ne"); walk_at "hp")
  | (apply L2.But.kind; assumption; (walk_at "hp"); (walk_at "hp"); (intro z; cases z))
  | (apply L2.But2.at; assumption; (walk_at "ne"); (walk_at "ne"); walk_at "hp"))
local macro_rules | `(tactic| walk_at "ne") => `(tactic| first
  | assumption
  | exact Ne.symm (by assumption)
  | exact L2.neF (by assumption) (by walk_at "hp")
  | exact L2.neF2 (by assumption) (by walk_at "hp"))
local macro_rules | `(tactic| walk_at "sm") => `(tactic| first
  | exact L2.Same.refl _
  | assumption
  | (refine L2.Same.trans ?_ (by assumption); walk_at "sm")
  | (refine L2.Same.but ?_ (by assumption) (by walk_at "fr"); walk_at "sm"))
local macro_rules | `(tactic| walk_at "fr") => `(tactic| first
  | assumption
  | exact L2.Fr.back (by assumption) (by walk_at "sm"))
local macro_rules | `(tactic| walk_at "bt") => `(tactic| first
  | assumption
  | (refine L2.But.same ?_ (by assumption); walk_at "bt")
  | exact L2.But.before (by assumption) (by walk_at "sm")
  | (refine L2.But.trans ?_ (by assumption); walk_at "bt"))
local macro_rules | `(tactic| walk_at "b2") => `(tactic| first
  | assumption
  | exact L2.But2.refl
  | (refine L2.But2.trans ?_ (L2.Same.two (by assumption)); walk_at "b2")
  | (refine L2.But2.trans ?_ (L2.But.two (by assumption)); walk_at "b2")
  | (refine L2.But2.trans ?_ (L2.But.two' (by assumption)); walk_at "b2")
  | (refine L2.But2.trans ?_ (by assumption); walk_at "b2"))
local macro_rules | `(tactic| walk_at "sz") => `(tactic| first
  | exact Nat.le_of_ble_eq_true rfl
  | ((try simp only [List.length_append, List.length_map, List.length_cons, List.length_nil, List.length_take, List.length_drop, List.length_dropLast, List.length_reverse]); omega))
local macro_rules | `(tactic| walk_at "at") => `(tactic| first
  | rfl
  | assumption
  | exact L2.atI_nat (by first | rfl | assumption))
/-! ### the words of a reading: sd a side condition, rd one step, rds as many as go by themselves, ri a test -/
local macro_rules | `(tactic| walk_at "sd") => `(tactic| first
  | omega
  | (show (0 : Int) < _; omega)
  | (show (0 : Int) ≤ _; omega)
  | exact .inl ⟨by omega, by omega⟩
  | exact .inr ⟨by omega, by omega⟩
  | exact ⟨by decide, by decide⟩
  | exact ⟨by omega, by omega⟩
  | exact L2.small_size (Nat.le_of_ble_eq_true rfl)
  | exact L2.wide_div (b := 64) (by omega) (by omega) (by decide) (by decide)
  | assumption
  | exact ⟨_, by assumption⟩
  | exact .of (by walk_at "hp")
  | exact .inl (.of (by walk_at "hp"))
  | exact .inr (.of (by walk_at "hp"))
  | walk_at "hp"
  | exact L2.szlt (by walk_at "sz"))
local macro_rules | `(tactic| walk_at "rd") => `(tactic| first
  | refine ⟨_, rfl, ?_⟩
  | refine ⟨_, _, rfl, rfl, ?_⟩
  | refine ⟨_, _, rfl, ?_⟩
  | refine ⟨_, _, _, rfl, ?_⟩
  | refine ⟨_, _, _, _, rfl, ?_⟩
  | refine ⟨_, _, _, _, _, rfl, ?_⟩
  | refine ⟨_, _, _, _, _, _, rfl, ?_⟩
  | refine ⟨rfl, ?_⟩
  | refine L2.iteF ?_
  | refine L2.iteT ?_
  | refine And.intro (by walk_at "sd") ?_
  | refine ⟨_, _, _, _, true, rfl, .ty _, .base (.int _), L2.kit_ty (by decide +kernel), ?_⟩
  | refine ⟨_, _, _, _, false, rfl, .ty _, .base (.int _), L2.kit_ty (by decide +kernel), ?_⟩
  | refine ⟨_, _, _, _, true, rfl, .ty _, .base (.bl _), L2.kit_ty (by decide +kernel), ?_⟩
  | refine ⟨_, _, _, _, false, rfl, .ty _, .base (.bl _), L2.kit_ty (by decide +kernel), ?_⟩
  | refine ⟨_, _, _, _, true, rfl, .ty _, .base (.str _), L2.kit_ty (by decide +kernel), ?_⟩
  | refine ⟨_, _, _, _, false, rfl, .ty _, .base (.str _), L2.kit_ty (by decide +kernel), ?_⟩
  | refine ⟨_, _, _, _, true, rfl, .ty _, .base .non, L2.kit_ty (by decide +kernel), ?_⟩
  | refine ⟨_, _, _, _, false, rfl, .ty _, .base .non, L2.kit_ty (by decide +kernel), ?_⟩)
local macro_rules | `(tactic| walk_at "rds") => `(tactic| repeat walk_at "rd")
local macro_rules | `(tactic| walk_at "rz") => `(tactic| repeat first
  | walk_at "rd"
  | refine fun (_ : Int) => ?_
  | refine fun (_ : (_ : Int) ≤ _) => ?_
  | refine fun (_ : (_ : Int) < _) => ?_)
local macro_rules | `(tactic| walk_at "ri") => `(tactic| first
  | refine L2.iteV ?_ ?_
  | refine L2.iteNV ?_ ?_
  | refine L2.iteD ?_ ?_
  | refine L2.iteND ?_ ?_
  | refine L2.iteB ?_ ?_)
local macro_rules | `(tactic| walk_at "nf") => `(tactic| try dsimp only [L2.start, List.set_cons_zero, List.set_cons_succ])
local macro_rules | `(tactic| walk_at "g94len") => `(tactic| (intro vs H Q E h; first
  | exact False.elim h
  | (obtain ⟨e, _⟩ := h; exact congrArg List.length e)
  | (obtain ⟨_, e, _⟩ := h; exact congrArg List.length e)
  | (obtain ⟨_, _, e, _⟩ := h; exact congrArg List.length e)
  | (obtain ⟨_, _, _, e, _⟩ := h; exact congrArg List.length e)
  | (obtain ⟨_, _, _, _, e, _⟩ := h; exact congrArg List.length e)
  | (obtain ⟨_, _, _, _, _, e, _⟩ := h; exact congrArg List.length e)
  | (obtain ⟨_, _, _, _, _, _, e, _⟩ := h; exact congrArg List.length e)
  | (obtain ⟨_, _, _, _, _, _, _, e, _⟩ := h; exact congrArg List.length e)
  | (obtain ⟨_, _, _, _, _, _, _, _, e, _⟩ := h; exact congrArg List.length e)
  | (obtain ⟨_, _, _, _, _, _, _, _, _, e, _⟩ := h; exact congrArg List.length e)
  | (obtain ⟨_, _, _, _, _, _, _, _, _, _, e, _⟩ := h; exact congrArg List.length e)
  | (obtain ⟨_, _, _, _, _, _, _, _, _, _, _, e, _⟩ := h; exact congrArg List.length e)
  | (obtain ⟨_, _, _, _, _, _, _, _, _, _, _, _, e, _⟩ := h; exact congrArg List.length e)
  | (obtain ⟨_, _, _, _, _, _, _, _, _, _, _, _, _, e, _⟩ := h; exact congrArg List.length e)
  | (obtain ⟨_, _, _, _, _, _, _, _, _, _, _, _, _, _, e, _⟩ := h; exact congrArg List.length e)))
local macro_rules | `(tactic| walk_at "g94tr") => `(tactic| (set_option pp.deepTerms false in set_option pp.deepTerms.threshold 8 in trace_state))
local macro_rules | `(tactic| walk_at "wk") => `(tactic| first
  | walk_at "rd"
  | refine ⟨_, _, _, _, rfl, rfl, .of (by walk_at "hp"), (by walk_at "at"), ?_⟩
  | refine ⟨_, _, _, _, _, rfl, (by walk_at "hp"), (by assumption), (by assumption), (by walk_at "lk"), ?_⟩
  | refine ⟨_, _, _, rfl, rfl, (by walk_at "hp"), L2.szlt (by walk_at "sz"), ?_⟩
  | refine ⟨_, _, _, rfl, (by walk_at "hp"), (by walk_at "lk"), ?_⟩
  | refine ⟨_, _, _, _, rfl, (by walk_at "hp"), (by assumption), (by assumption), Nat.le_of_ble_eq_true rfl, _, (by walk_at "pf"), ?_⟩
  | refine ⟨_, _, _, _, true, rfl, .ty _, .base (.lst (by walk_at "hp")), L2.kit_ty (by decide +kernel), ?_⟩
  | refine ⟨_, _, _, _, true, rfl, .ty _, .base (.tup (by walk_at "hp")), L2.kit_ty (by decide +kernel), ?_⟩
  | refine ⟨_, _, _, _, true, rfl, .ty _, .base (.dK (by walk_at "hp")), L2.kit_ty (by decide +kernel), ?_⟩
  | refine ⟨_, _, _, _, true, rfl, .ty _, .base (.dT (by walk_at "hp")), L2.kit_ty (by decide +kernel), ?_⟩
  | refine ⟨_, _, _, rfl, (by walk_at "hp"), ?_⟩
  | refine ⟨_, _, rfl, (by walk_at "hp"), ?_⟩
  | refine ⟨.inl ⟨rfl, _, .of (by walk_at "hp")⟩, ?_⟩
  | refine ⟨_, _, rfl, .inl (.of (by walk_at "hp")), ?_⟩
  | refine ⟨_, _, rfl, .of (by walk_at "hp"), ?_⟩
  | refine ⟨_, _, _, _, rfl, rfl, (by walk_at "hp"), (by walk_at "hp"), L2.small_size (by walk_at "sz"), ?_⟩
  | refine ⟨_, _, _, rfl, rfl, (by walk_at "hp"), ⟨by decide, by decide, L2.small_size (by walk_at "sz")⟩, ?_⟩
  | refine fun p H' (f : L2.Fr _ _) (s : L2.Same _ _) (h : _ = some _) => ?_
  | refine fun H' (m : L2.But _ _ _) (h : _ = some _) => ?_)
local macro_rules | `(tactic| walk_at "wks") => `(tactic| repeat walk_at "wk")
local macro_rules | `(tactic| walk_at "lk") => `(tactic| first
  | exact L2.lkE (by decide +kernel)
  | exact L2.lkN (by decide +kernel) (by walk_at "lk")
  | rfl
  | assumption)
local macro_rules | `(tactic| walk_at "pf") => `(tactic| first
  | exact L2.pfNil
  | exact L2.pfE (by decide +kernel)
  | exact L2.pfN (by decide +kernel) (by walk_at "pf"))
namespace G94
open PySem PySem.Spec PyProof.Rows L2
def top (i : Nat) : Stmt := PySem.Challenge.pw_lampcues_k92_rows_in_order.main.body.getD i (.Pass ⟨0, 0, 0, 0⟩)
abbrev s_NoText_init : Stmt := inClass (top 3) 0
theorem sc_NoText_init : FnScope ["self", "words", "row"] ["self", "words", "row"] (defScope s_NoText_init) := ⟨rfl, rfl, rfl, by decide +kernel, rfl, by decide +kernel, by decide +kernel⟩
abbrev s_is_time : Stmt := top 15
theorem sc_is_time : FnScope ["thing"] ["thing"] (defScope s_is_time) := ⟨rfl, rfl, rfl, by decide +kernel, rfl, by decide +kernel, by decide +kernel⟩
abbrev s_are_figures : Stmt := top 16
theorem sc_are_figures : FnScope ["text", "most", "sign"] ["text", "most"] (defScope s_are_figures) := ⟨rfl, rfl, rfl, by decide +kernel, rfl, by decide +kernel, by decide +kernel⟩
abbrev s_time_of : Stmt := top 17
theorem sc_time_of : FnScope ["text", "seconds", "point", "rest", "ticks"] ["text"] (defScope s_time_of) := ⟨rfl, rfl, rfl, by decide +kernel, rfl, by decide +kernel, by decide +kernel⟩
abbrev s_is_lamp : Stmt := top 23
theorem sc_is_lamp : FnScope ["thing", "sign"] ["thing"] (defScope s_is_lamp) := ⟨rfl, rfl, rfl, by decide +kernel, rfl, by decide +kernel, by decide +kernel⟩
abbrev s_is_slot : Stmt := top 24
theorem sc_is_slot : FnScope ["thing"] ["thing"] (defScope s_is_slot) := ⟨rfl, rfl, rfl, by decide +kernel, rfl, by decide +kernel, by decide +kernel⟩
abbrev s_whole_of : Stmt := top 34
theorem sc_whole_of : FnScope ["word", "most", "sign", "number"] ["word", "most"] (defScope s_whole_of) := ⟨rfl, rfl, rfl, by decide +kernel, rfl, by decide +kernel, by decide +kernel⟩
abbrev s_ticks_by : Stmt := top 44
theorem sc_ticks_by : FnScope ["word", "ticks"] ["word"] (defScope s_ticks_by) := ⟨rfl, rfl, rfl, by decide +kernel, rfl, by decide +kernel, by decide +kernel⟩
abbrev s_number_by : Stmt := top 45
theorem sc_number_by : FnScope ["word", "least", "most", "number"] ["word", "least", "most"] (defScope s_number_by) := ⟨rfl, rfl, rfl, by decide +kernel, rfl, by decide +kernel, by decide +kernel⟩
abbrev s_thing_by : Stmt := top 46
theorem sc_thing_by : FnScope ["kind", "word"] ["kind", "word"] (defScope s_thing_by) := ⟨rfl, rfl, rfl, by decide +kernel, rfl, by decide +kernel, by decide +kernel⟩
abbrev s_things_of : Stmt := top 47
theorem sc_things_of : FnScope ["word", "rest", "kinds", "words", "kind", "one"] ["word", "rest"] (defScope s_things_of) := ⟨rfl, rfl, rfl, by decide +kernel, rfl, by decide +kernel, by decide +kernel⟩
abbrev s_row_of : Stmt := top 48
theorem sc_row_of : FnScope ["row", "words", "tick"] ["row"] (defScope s_row_of) := ⟨rfl, rfl, rfl, by decide +kernel, rfl, by decide +kernel, by decide +kernel⟩
abbrev s_ticks_of : Stmt := top 35
theorem sc_ticks_of : FnScope ["word", "ticks"] ["word"] (defScope s_ticks_of) := ⟨rfl, rfl, rfl, by decide +kernel, rfl, by decide +kernel, by decide +kernel⟩
abbrev s_times_of : Stmt := top 36
theorem sc_times_of : FnScope ["words", "found", "word"] ["words"] (defScope s_times_of) := ⟨rfl, rfl, rfl, by decide +kernel, rfl, by decide +kernel, by decide +kernel⟩
abbrev s_head_of : Stmt := top 37
theorem sc_head_of : FnScope ["words", "number", "rest", "stops", "follow"] ["words"] (defScope s_head_of) := ⟨rfl, rfl, rfl, by decide +kernel, rfl, by decide +kernel, by decide +kernel⟩
abbrev s_Sheet_init : Stmt := inClass (top 38) 0
theorem sc_Sheet_init : FnScope ["self"] ["self"] (defScope s_Sheet_init) := ⟨rfl, rfl, rfl, by decide +kernel, rfl, by decide +kernel, by decide +kernel⟩
abbrev s_Sheet_ended : Stmt := inClass (top 38) 1
theorem sc_Sheet_ended : FnScope ["self", "parts", "one"] ["self"] (defScope s_Sheet_ended) := ⟨rfl, rfl, rfl, by decide +kernel, rfl, by decide +kernel, by decide +kernel⟩
abbrev s_Sheet_take_cue : Stmt := inClass (top 38) 2
theorem sc_Sheet_take_cue : FnScope ["self", "words", "head", "last"] ["self", "words"] (defScope s_Sheet_take_cue) := ⟨rfl, rfl, rfl, by decide +kernel, rfl, by decide +kernel, by decide +kernel⟩
abbrev s_Sheet_take_part : Stmt := inClass (top 38) 3
theorem sc_Sheet_take_part : FnScope ["self", "words", "times"] ["self", "words"] (defScope s_Sheet_take_part) := ⟨rfl, rfl, rfl, by decide +kernel, rfl, by decide +kernel, by decide +kernel⟩
abbrev s_Sheet_take_telling : Stmt := inClass (top 38) 4
theorem sc_Sheet_take_telling : FnScope ["self", "words", "slot", "worth", "one", "tells"] ["self", "words"] (defScope s_Sheet_take_telling) := ⟨rfl, rfl, rfl, by decide +kernel, rfl, by decide +kernel, by decide +kernel⟩
abbrev s_Sheet_take : Stmt := inClass (top 38) 5
theorem sc_Sheet_take : FnScope ["self", "words"] ["self", "words"] (defScope s_Sheet_take) := ⟨rfl, rfl, rfl, by decide +kernel, rfl, by decide +kernel, by decide +kernel⟩
abbrev s_read : Stmt := top 39
theorem sc_read : FnScope ["text", "rows", "sheet", "at", "row"] ["text"] (defScope s_read) := ⟨rfl, rfl, rfl, by decide +kernel, rfl, by decide +kernel, by decide +kernel⟩
abbrev s_Desk_init : Stmt := inClass (top 50) 0
theorem sc_Desk_init : FnScope ["self", "text"] ["self", "text"] (defScope s_Desk_init) := ⟨rfl, rfl, rfl, by decide +kernel, rfl, by decide +kernel, by decide +kernel⟩
abbrev s_Desk_hear : Stmt := inClass (top 50) 1
theorem sc_Desk_hear : FnScope ["self", "row", "hand", "tick", "word", "things"] ["self", "row"] (defScope s_Desk_hear) := ⟨rfl, rfl, rfl, by decide +kernel, rfl, by decide +kernel, by decide +kernel⟩
abbrev s_Desk_rows : Stmt := inClass (top 50) 2
theorem sc_Desk_rows : FnScope ["self", "one"] ["self"] (defScope s_Desk_rows) := ⟨rfl, rfl, rfl, by decide +kernel, rfl, by decide +kernel, by decide +kernel⟩
abbrev s_l_cell_at : Stmt := top 52
theorem sc_l_cell_at : FnScope ["_law_script", "_law_k"] ["_law_script", "_law_k"] (defScope s_l_cell_at) := ⟨rfl, rfl, rfl, by decide +kernel, rfl, by decide +kernel, by decide +kernel⟩
abbrev s_l_number : Stmt := top 53
theorem sc_l_number : FnScope ["_law_cell", "_law_k"] ["_law_cell", "_law_k"] (defScope s_l_number) := ⟨rfl, rfl, rfl, by decide +kernel, rfl, by decide +kernel, by decide +kernel⟩
abbrev s_l_names : Stmt := top 54
theorem sc_l_names : FnScope ["_law_cell", "_law_letters", "_law_base", "_law_at", "_law_some", "_law_k"] ["_law_cell"] (defScope s_l_names) := ⟨rfl, rfl, rfl, by decide +kernel, rfl, by decide +kernel, by decide +kernel⟩
abbrev s_l_before : Stmt := top 55
theorem sc_l_before : FnScope ["_law_one", "_law_other"] ["_law_one", "_law_other"] (defScope s_l_before) := ⟨rfl, rfl, rfl, by decide +kernel, rfl, by decide +kernel, by decide +kernel⟩
abbrev s_l_put : Stmt := top 56
theorem sc_l_put : FnScope ["_law_rows", "_law_row", "_law_at"] ["_law_rows", "_law_row"] (defScope s_l_put) := ⟨rfl, rfl, rfl, by decide +kernel, rfl, by decide +kernel, by decide +kernel⟩
abbrev s_l_same : Stmt := top 57
theorem sc_l_same : FnScope ["_law_found", "_law_rows", "_law_one", "_law_row"] ["_law_found", "_law_rows"] (defScope s_l_same) := ⟨rfl, rfl, rfl, by decide +kernel, rfl, by decide +kernel, by decide +kernel⟩
abbrev s_l_caught : Stmt := top 58
theorem sc_l_caught : FnScope ["_law_desk", "_law_row", "_law_caught_here", "e"] ["_law_desk", "_law_row"] (defScope s_l_caught) := ⟨rfl, rfl, rfl, by decide +kernel, rfl, by decide +kernel, by decide +kernel⟩
abbrev s_l_refused : Stmt := top 59
theorem sc_l_refused : FnScope ["_law_desk", "_law_row", "_law_late", "_law_caught_here"] ["_law_desk", "_law_row", "_law_late"] (defScope s_l_refused) := ⟨rfl, rfl, rfl, by decide +kernel, rfl, by decide +kernel, by decide +kernel⟩
abbrev s_l_text : Stmt := top 60
theorem sc_l_text : FnScope ["_law_hand", "_law_tick", "_law_number_here", "_law_some"] ["_law_hand", "_law_tick", "_law_number_here"] (defScope s_l_text) := ⟨rfl, rfl, rfl, by decide +kernel, rfl, by decide +kernel, by decide +kernel⟩
abbrev s_l_told : Stmt := top 61
theorem sc_l_told : FnScope ["_law_desk", "_law_rows", "_law_lasts", "_law_hand", "_law_number_here", "_law_last", "_law_tick", "_law_early", "_law_odd", "_law_at", "_law_row"] ["_law_desk", "_law_rows", "_law_lasts", "_law_hand", "_law_number_here"] (defScope s_l_told) := ⟨rfl, rfl, rfl, by decide +kernel, rfl, by decide +kernel, by decide +kernel⟩
abbrev s_l_begun : Stmt := top 62
theorem sc_l_begun : FnScope ["_law_cell", "_law_some", "_law_line", "_law_row", "_law_found", "e"] ["_law_cell"] (defScope s_l_begun) := ⟨rfl, rfl, rfl, by decide +kernel, rfl, by decide +kernel, by decide +kernel⟩
abbrev s_law : Stmt := top 63
theorem sc_law : FnScope ["_law_script", "_law_desk", "_law_beside", "_law_names_here", "_law_rows", "_law_lasts", "_law_held", "_law_k", "_law_cell", "_law_number_here", "_law_found", "_law_one", "_law_kept"] ["_law_script"] (defScope s_law) := ⟨rfl, rfl, rfl, by decide +kernel, rfl, by decide +kernel, by decide +kernel⟩
def d_NoText_init : He.DefD := ⟨("NoText", some "__init__"), "__init__", "NoText.__init__", defArgs s_NoText_init, defBody s_NoText_init, defScope s_NoText_init, [.int 0], []⟩
def d_is_time : He.DefD := ⟨("is_time", none), "is_time", "is_time", defArgs s_is_time, defBody s_is_time, defScope s_is_time, [], []⟩
def d_are_figures : He.DefD := ⟨("are_figures", none), "are_figures", "are_figures", defArgs s_are_figures, defBody s_are_figures, defScope s_are_figures, [], []⟩
def d_time_of : He.DefD := ⟨("time_of", none), "time_of", "time_of", defArgs s_time_of, defBody s_time_of, defScope s_time_of, [], []⟩
def d_is_lamp : He.DefD := ⟨("is_lamp", none), "is_lamp", "is_lamp", defArgs s_is_lamp, defBody s_is_lamp, defScope s_is_lamp, [], []⟩
def d_is_slot : He.DefD := ⟨("is_slot", none), "is_slot", "is_slot", defArgs s_is_slot, defBody s_is_slot, defScope s_is_slot, [], []⟩
def d_whole_of : He.DefD := ⟨("whole_of", none), "whole_of", "whole_of", defArgs s_whole_of, defBody s_whole_of, defScope s_whole_of, [], []⟩
def d_ticks_by : He.DefD := ⟨("ticks_by", none), "ticks_by", "ticks_by", defArgs s_ticks_by, defBody s_ticks_by, defScope s_ticks_by, [], []⟩
def d_number_by : He.DefD := ⟨("number_by", none), "number_by", "number_by", defArgs s_number_by, defBody s_number_by, defScope s_number_by, [], []⟩
def d_thing_by : He.DefD := ⟨("thing_by", none), "thing_by", "thing_by", defArgs s_thing_by, defBody s_thing_by, defScope s_thing_by, [], []⟩
def d_things_of : He.DefD := ⟨("things_of", none), "things_of", "things_of", defArgs s_things_of, defBody s_things_of, defScope s_things_of, [], []⟩
def d_row_of : He.DefD := ⟨("row_of", none), "row_of", "row_of", defArgs s_row_of, defBody s_row_of, defScope s_row_of, [], []⟩
def d_ticks_of : He.DefD := ⟨("ticks_of", none), "ticks_of", "ticks_of", defArgs s_ticks_of, defBody s_ticks_of, defScope s_ticks_of, [], []⟩
def d_times_of : He.DefD := ⟨("times_of", none), "times_of", "times_of", defArgs s_times_of, defBody s_times_of, defScope s_times_of, [], []⟩
def d_head_of : He.DefD := ⟨("head_of", none), "head_of", "head_of", defArgs s_head_of, defBody s_head_of, defScope s_head_of, [], []⟩
def d_Sheet_init : He.DefD := ⟨("Sheet", some "__init__"), "__init__", "Sheet.__init__", defArgs s_Sheet_init, defBody s_Sheet_init, defScope s_Sheet_init, [], []⟩
def d_Sheet_ended : He.DefD := ⟨("Sheet", some "ended"), "ended", "Sheet.ended", defArgs s_Sheet_ended, defBody s_Sheet_ended, defScope s_Sheet_ended, [], []⟩
def d_Sheet_take_cue : He.DefD := ⟨("Sheet", some "take_cue"), "take_cue", "Sheet.take_cue", defArgs s_Sheet_take_cue, defBody s_Sheet_take_cue, defScope s_Sheet_take_cue, [], []⟩
def d_Sheet_take_part : He.DefD := ⟨("Sheet", some "take_part"), "take_part", "Sheet.take_part", defArgs s_Sheet_take_part, defBody s_Sheet_take_part, defScope s_Sheet_take_part, [], []⟩
def d_Sheet_take_telling : He.DefD := ⟨("Sheet", some "take_telling"), "take_telling", "Sheet.take_telling", defArgs s_Sheet_take_telling, defBody s_Sheet_take_telling, defScope s_Sheet_take_telling, [], []⟩
def d_Sheet_take : He.DefD := ⟨("Sheet", some "take"), "take", "Sheet.take", defArgs s_Sheet_take, defBody s_Sheet_take, defScope s_Sheet_take, [], []⟩
def d_read : He.DefD := ⟨("read", none), "read", "read", defArgs s_read, defBody s_read, defScope s_read, [], []⟩
def d_Desk_init : He.DefD := ⟨("Desk", some "__init__"), "__init__", "Desk.__init__", defArgs s_Desk_init, defBody s_Desk_init, defScope s_Desk_init, [.str ""], []⟩
def d_Desk_hear : He.DefD := ⟨("Desk", some "hear"), "hear", "Desk.hear", defArgs s_Desk_hear, defBody s_Desk_hear, defScope s_Desk_hear, [], []⟩
def d_Desk_rows : He.DefD := ⟨("Desk", some "rows"), "rows", "Desk.rows", defArgs s_Desk_rows, defBody s_Desk_rows, defScope s_Desk_rows, [], []⟩
def d_l_cell_at : He.DefD := ⟨("_law_cell_at", none), "_law_cell_at", "_law_cell_at", defArgs s_l_cell_at, defBody s_l_cell_at, defScope s_l_cell_at, [], []⟩
def d_l_number : He.DefD := ⟨("_law_number", none), "_law_number", "_law_number", defArgs s_l_number, defBody s_l_number, defScope s_l_number, [], []⟩
def d_l_names : He.DefD := ⟨("_law_names", none), "_law_names", "_law_names", defArgs s_l_names, defBody s_l_names, defScope s_l_names, [], []⟩
def d_l_before : He.DefD := ⟨("_law_before", none), "_law_before", "_law_before", defArgs s_l_before, defBody s_l_before, defScope s_l_before, [], []⟩
def d_l_put : He.DefD := ⟨("_law_put", none), "_law_put", "_law_put", defArgs s_l_put, defBody s_l_put, defScope s_l_put, [], []⟩
def d_l_same : He.DefD := ⟨("_law_same", none), "_law_same", "_law_same", defArgs s_l_same, defBody s_l_same, defScope s_l_same, [], []⟩
def d_l_caught : He.DefD := ⟨("_law_caught", none), "_law_caught", "_law_caught", defArgs s_l_caught, defBody s_l_caught, defScope s_l_caught, [], []⟩
def d_l_refused : He.DefD := ⟨("_law_refused", none), "_law_refused", "_law_refused", defArgs s_l_refused, defBody s_l_refused, defScope s_l_refused, [], []⟩
def d_l_text : He.DefD := ⟨("_law_text", none), "_law_text", "_law_text", defArgs s_l_text, defBody s_l_text, defScope s_l_text, [], []⟩
def d_l_told : He.DefD := ⟨("_law_told", none), "_law_told", "_law_told", defArgs s_l_told, defBody s_l_told, defScope s_l_told, [], []⟩
def d_l_begun : He.DefD := ⟨("_law_begun", none), "_law_begun", "_law_begun", defArgs s_l_begun, defBody s_l_begun, defScope s_l_begun, [], []⟩
def d_law : He.DefD := ⟨("law", none), "law", "law", defArgs s_law, defBody s_law, defScope s_law, [], []⟩
def formsTab : L2.FTab := [("go", []), ("back", []), ("goto", ["number"]), ("stop", []), ("on", []), ("put", ["number", "time", "time", "time"]), ("out", ["number"]), ("keep", ["number"]), ("tell", ["number", "name", "side", "worth"]), ("alone", ["number", "name", "side", "worth"]), ("untell", ["number", "name", "side"]), ("block", ["number"]), ("unblock", ["number"]), ("fill", ["name", "name", "side", "worth"]), ("move", ["name", "level"]), ("down", ["level"]), ("spare", ["name"])]
def formsKeys : List Str := ["go", "back", "goto", "stop", "on", "put", "out", "keep", "tell", "alone", "untell", "block", "unblock", "fill", "move", "down", "spare"]
def fn : List He.DefD := [d_NoText_init, d_is_time, d_are_figures, d_time_of, d_is_lamp, d_is_slot, d_whole_of, d_ticks_by, d_number_by, d_thing_by, d_things_of, d_row_of, d_ticks_of, d_times_of, d_head_of, d_Sheet_init, d_Sheet_ended, d_Sheet_take_cue, d_Sheet_take_part, d_Sheet_take_telling, d_Sheet_take, d_read, d_Desk_init, d_Desk_hear, d_Desk_rows, d_l_cell_at, d_l_number, d_l_names, d_l_before, d_l_put, d_l_same, d_l_caught, d_l_refused, d_l_text, d_l_told, d_l_begun, d_law]
def fa : List He.Fa := [.glo "is_time", .glo "are_figures", .glo "time_of", .glo "is_lamp", .glo "is_slot", .glo "whole_of", .glo "ticks_by", .glo "number_by", .glo "thing_by", .glo "things_of", .glo "row_of", .glo "ticks_of", .glo "times_of", .glo "head_of", .glo "read", .glo "_law_cell_at", .glo "_law_number", .glo "_law_names", .glo "_law_before", .glo "_law_put", .glo "_law_same", .glo "_law_caught", .glo "_law_refused", .glo "_law_text", .glo "_law_told", .glo "_law_begun", .glo "law", .glo "Sheet", .glo "Desk", .glo "NoText", .glo "NoRow", .glo "LampError", .glo "NoCue", .glo "NoName", .glo "Late", .glo "SIDES", .glo "FORMS", .free "len", .free "isinstance", .free "int", .free "bool", .free "range", .free "list", .free "str", .free "tuple", .free "zip", .free "enumerate", .free "ValueError", .free "sorted", .free "max", .int "MOST_times" 1000000000, .str "FIGURES_times" "0123456789", .str "LETTERS" "abcdefghijklmnopqrstuvwxyz", .int "MOST_cues" 1000000000, .str "FIGURES_reader" "0123456789", .int "MOST_reader" 1000000000, .int "MOST_rows" 1000000000, .int "LAST_TICK" 999999999999, .exc "Late", .exc "NoRow", .exm "NoText" "NoText" true, .exm "NoRow" "LampError" true, .exm "Late" "LampError" true, .cls "Sheet", .mkr "Sheet", .noat "Sheet" "cues", .noat "Sheet" "head", .noat "Sheet" "parts", .meth "Sheet" "ended", .meth "Sheet" "take_cue", .meth "Sheet" "take_part", .meth "Sheet" "take_telling", .meth "Sheet" "take", .cls "Desk", .mkr "Desk", .noat "Desk" "begin", .noat "Desk" "heard", .noat "Desk" "lasts", .meth "Desk" "hear", .meth "Desk" "rows"]
def exL (K : PySem.W.Frag) : List Bool := [He.tupB K "SIDES" [.str "blue", .str "bright", .str "green", .str "pan", .str "red", .str "tilt"],
  formsTab.all (L2.formB K (He.ga K "FORMS")),
  L2.oexB K "NoText",
  decide (PySem.W.findIn K (.ref (He.ga K "NoText")) "__init__" = some (some (.ref (He.fAd K ("NoText", some "__init__"))))),
  decide (PySem.W.typeIn K (.ref (He.fAd K ("NoText", some "__init__"))) = some (.type "function")),
  L2.xfB K (He.ga K "NoText"),
  decide (PySem.W.findIn K (.ref (He.ga K "NoText")) "row" = some none),
  L2.ownIB K "LampError",
  L2.excB K "NoText",
  L2.excB K "NoRow",
  decide (PySem.W.kitOne K (.ref (He.ga K "NoRow")) (.type "ValueError") = some true),
  decide (PySem.W.kitOne K (.ref (He.ga K "NoRow")) (.ref (He.ga K "NoText")) = some false),
  decide (PySem.W.kitOne K (.ref (He.ga K "NoRow")) (.ref (He.ga K "NoCue")) = some false),
  decide (PySem.W.kitOne K (.ref (He.ga K "NoRow")) (.ref (He.ga K "NoName")) = some false),
  decide (PySem.W.kitOne K (.ref (He.ga K "NoRow")) (.ref (He.ga K "Late")) = some false),
  decide (PySem.W.kitOne K (.ref (He.ga K "NoRow")) (.ref (He.ga K "NoRow")) = some true),
  L2.excB K "Late",
  decide (PySem.W.kitOne K (.ref (He.ga K "Late")) (.type "ValueError") = some true),
  decide (PySem.W.kitOne K (.ref (He.ga K "Late")) (.ref (He.ga K "NoText")) = some false),
  decide (PySem.W.kitOne K (.ref (He.ga K "Late")) (.ref (He.ga K "NoCue")) = some false),
  decide (PySem.W.kitOne K (.ref (He.ga K "Late")) (.ref (He.ga K "NoName")) = some false),
  decide (PySem.W.kitOne K (.ref (He.ga K "Late")) (.ref (He.ga K "Late")) = some true),
  decide (PySem.W.kitOne K (.ref (He.ga K "Late")) (.ref (He.ga K "NoRow")) = some false)]
def exB (K : PySem.W.Frag) : Bool := (exL K).all id
/-- what the top leaves -/
structure Txt (K : PySem.W.Frag) (mg : Str → Option Value) : Prop where
  c : He.SaysD fa fn K
  hp : ∃ h : Heap, K.In h ∧ h.Ns mainGlobals mg
  x : exB K = true
section
variable {K : PySem.W.Frag} {mg : Str → Option Value}
theorem tup_SIDES (T : Txt K mg) (H : L2.Hp) : L2.SqT K H (He.ga K "SIDES") [L2.V.str "blue", L2.V.str "bright", L2.V.str "green", L2.V.str "pan", L2.V.str "red", L2.V.str "tilt"] := He.tupB_ok (List.all_eq_true.mp T.x _ (List.mem_of_getElem? (i := 0) rfl)) H
theorem forms_FORMS (T : Txt K mg) : formsTab.all (L2.formB K (He.ga K "FORMS")) = true := (List.all_eq_true.mp T.x _ (List.mem_of_getElem? (i := 1) rfl))
theorem oex_NoText (T : Txt K mg) : L2.OexC K (He.ga K "NoText") := L2.oexB_ok (List.all_eq_true.mp T.x _ (List.mem_of_getElem? (i := 2) rfl))
theorem ini_NoText (T : Txt K mg) : PySem.W.findIn K (.ref (He.ga K "NoText")) "__init__" = some (some (.ref (He.fAd K ("NoText", some "__init__")))) := of_decide_eq_true (List.all_eq_true.mp T.x _ (List.mem_of_getElem? (i := 3) rfl))
theorem inf_NoText (T : Txt K mg) : PySem.W.typeIn K (.ref (He.fAd K ("NoText", some "__init__"))) = some (.type "function") := of_decide_eq_true (List.all_eq_true.mp T.x _ (List.mem_of_getElem? (i := 4) rfl))
theorem xf_NoText (T : Txt K mg) : L2.XfC K (He.ga K "NoText") := L2.xfB_ok (List.all_eq_true.mp T.x _ (List.mem_of_getElem? (i := 5) rfl))
theorem xn_NoText_row (T : Txt K mg) : PySem.W.findIn K (.ref (He.ga K "NoText")) "row" = some none := of_decide_eq_true (List.all_eq_true.mp T.x _ (List.mem_of_getElem? (i := 6) rfl))
theorem own_LampError (T : Txt K mg) : L2.OwnI K (He.ga K "LampError") := L2.ownIB_ok (List.all_eq_true.mp T.x _ (List.mem_of_getElem? (i := 7) rfl))
theorem excC_NoText (T : Txt K mg) : L2.ExcC K (He.ga K "NoText") := L2.excB_ok (List.all_eq_true.mp T.x _ (List.mem_of_getElem? (i := 8) rfl))
theorem excC_NoRow (T : Txt K mg) : L2.ExcC K (He.ga K "NoRow") := L2.excB_ok (List.all_eq_true.mp T.x _ (List.mem_of_getElem? (i := 9) rfl))
theorem is_NoRow_ValueError (T : Txt K mg) : PySem.W.kitOne K (.ref (He.ga K "NoRow")) (.type "ValueError") = some true := of_decide_eq_true (List.all_eq_true.mp T.x _ (List.mem_of_getElem? (i := 10) rfl))
theorem is_NoRow_NoText (T : Txt K mg) : PySem.W.kitOne K (.ref (He.ga K "NoRow")) (.ref (He.ga K "NoText")) = some false := of_decide_eq_true (List.all_eq_true.mp T.x _ (List.mem_of_getElem? (i := 11) rfl))
theorem is_NoRow_NoCue (T : Txt K mg) : PySem.W.kitOne K (.ref (He.ga K "NoRow")) (.ref (He.ga K "NoCue")) = some false := of_decide_eq_true (List.all_eq_true.mp T.x _ (List.mem_of_getElem? (i := 12) rfl))
theorem is_NoRow_NoName (T : Txt K mg) : PySem.W.kitOne K (.ref (He.ga K "NoRow")) (.ref (He.ga K "NoName")) = some false := of_decide_eq_true (List.all_eq_true.mp T.x _ (List.mem_of_getElem? (i := 13) rfl))
theorem is_NoRow_Late (T : Txt K mg) : PySem.W.kitOne K (.ref (He.ga K "NoRow")) (.ref (He.ga K "Late")) = some false := of_decide_eq_true (List.all_eq_true.mp T.x _ (List.mem_of_getElem? (i := 14) rfl))
theorem is_NoRow_NoRow (T : Txt K mg) : PySem.W.kitOne K (.ref (He.ga K "NoRow")) (.ref (He.ga K "NoRow")) = some true := of_decide_eq_true (List.all_eq_true.mp T.x _ (List.mem_of_getElem? (i := 15) rfl))
theorem excC_Late (T : Txt K mg) : L2.ExcC K (He.ga K "Late") := L2.excB_ok (List.all_eq_true.mp T.x _ (List.mem_of_getElem? (i := 16) rfl))
theorem is_Late_ValueError (T : Txt K mg) : PySem.W.kitOne K (.ref (He.ga K "Late")) (.type "ValueError") = some true := of_decide_eq_true (List.all_eq_true.mp T.x _ (List.mem_of_getElem? (i := 17) rfl))
theorem is_Late_NoText (T : Txt K mg) : PySem.W.kitOne K (.ref (He.ga K "Late")) (.ref (He.ga K "NoText")) = some false := of_decide_eq_true (List.all_eq_true.mp T.x _ (List.mem_of_getElem? (i := 18) rfl))
theorem is_Late_NoCue (T : Txt K mg) : PySem.W.kitOne K (.ref (He.ga K "Late")) (.ref (He.ga K "NoCue")) = some false := of_decide_eq_true (List.all_eq_true.mp T.x _ (List.mem_of_getElem? (i := 19) rfl))
theorem is_Late_NoName (T : Txt K mg) : PySem.W.kitOne K (.ref (He.ga K "Late")) (.ref (He.ga K "NoName")) = some false := of_decide_eq_true (List.all_eq_true.mp T.x _ (List.mem_of_getElem? (i := 20) rfl))
theorem is_Late_Late (T : Txt K mg) : PySem.W.kitOne K (.ref (He.ga K "Late")) (.ref (He.ga K "Late")) = some true := of_decide_eq_true (List.all_eq_true.mp T.x _ (List.mem_of_getElem? (i := 21) rfl))
theorem is_Late_NoRow (T : Txt K mg) : PySem.W.kitOne K (.ref (He.ga K "Late")) (.ref (He.ga K "NoRow")) = some false := of_decide_eq_true (List.all_eq_true.mp T.x _ (List.mem_of_getElem? (i := 22) rfl))
theorem glo_is_time (T : Txt K mg) : mg "is_time" = some (.ref (He.ga K "is_time")) := by
  obtain ⟨h, X, G⟩ := T.hp
  exact He.glo_ok X G (T.c.fact 0 rfl)
theorem glo_are_figures (T : Txt K mg) : mg "are_figures" = some (.ref (He.ga K "are_figures")) := by
  obtain ⟨h, X, G⟩ := T.hp
  exact He.glo_ok X G (T.c.fact 1 rfl)
theorem glo_time_of (T : Txt K mg) : mg "time_of" = some (.ref (He.ga K "time_of")) := by
  obtain ⟨h, X, G⟩ := T.hp
  exact He.glo_ok X G (T.c.fact 2 rfl)
theorem glo_is_lamp (T : Txt K mg) : mg "is_lamp" = some (.ref (He.ga K "is_lamp")) := by
  obtain ⟨h, X, G⟩ := T.hp
  exact He.glo_ok X G (T.c.fact 3 rfl)
theorem glo_is_slot (T : Txt K mg) : mg "is_slot" = some (.ref (He.ga K "is_slot")) := by
  obtain ⟨h, X, G⟩ := T.hp
  exact He.glo_ok X G (T.c.fact 4 rfl)
theorem glo_whole_of (T : Txt K mg) : mg "whole_of" = some (.ref (He.ga K "whole_of")) := by
  obtain ⟨h, X, G⟩ := T.hp
  exact He.glo_ok X G (T.c.fact 5 rfl)
theorem glo_ticks_by (T : Txt K mg) : mg "ticks_by" = some (.ref (He.ga K "ticks_by")) := by
  obtain ⟨h, X, G⟩ := T.hp
  exact He.glo_ok X G (T.c.fact 6 rfl)
theorem glo_number_by (T : Txt K mg) : mg "number_by" = some (.ref (He.ga K "number_by")) := by
  obtain ⟨h, X, G⟩ := T.hp
  exact He.glo_ok X G (T.c.fact 7 rfl)
theorem glo_thing_by (T : Txt K mg) : mg "thing_by" = some (.ref (He.ga K "thing_by")) := by
  obtain ⟨h, X, G⟩ := T.hp
  exact He.glo_ok X G (T.c.fact 8 rfl)
theorem glo_things_of (T : Txt K mg) : mg "things_of" = some (.ref (He.ga K "things_of")) := by
  obtain ⟨h, X, G⟩ := T.hp
  exact He.glo_ok X G (T.c.fact 9 rfl)
theorem glo_row_of (T : Txt K mg) : mg "row_of" = some (.ref (He.ga K "row_of")) := by
  obtain ⟨h, X, G⟩ := T.hp
  exact He.glo_ok X G (T.c.fact 10 rfl)
theorem glo_ticks_of (T : Txt K mg) : mg "ticks_of" = some (.ref (He.ga K "ticks_of")) := by
  obtain ⟨h, X, G⟩ := T.hp
  exact He.glo_ok X G (T.c.fact 11 rfl)
theorem glo_times_of (T : Txt K mg) : mg "times_of" = some (.ref (He.ga K "times_of")) := by
  obtain ⟨h, X, G⟩ := T.hp
  exact He.glo_ok X G (T.c.fact 12 rfl)
theorem glo_head_of (T : Txt K mg) : mg "head_of" = some (.ref (He.ga K "head_of")) := by
  obtain ⟨h, X, G⟩ := T.hp
  exact He.glo_ok X G (T.c.fact 13 rfl)
theorem glo_read (T : Txt K mg) : mg "read" = some (.ref (He.ga K "read")) := by
  obtain ⟨h, X, G⟩ := T.hp
  exact He.glo_ok X G (T.c.fact 14 rfl)
theorem glo__law_cell_at (T : Txt K mg) : mg "_law_cell_at" = some (.ref (He.ga K "_law_cell_at")) := by
  obtain ⟨h, X, G⟩ := T.hp
  exact He.glo_ok X G (T.c.fact 15 rfl)
theorem glo__law_number (T : Txt K mg) : mg "_law_number" = some (.ref (He.ga K "_law_number")) := by
  obtain ⟨h, X, G⟩ := T.hp
  exact He.glo_ok X G (T.c.fact 16 rfl)
theorem glo__law_names (T : Txt K mg) : mg "_law_names" = some (.ref (He.ga K "_law_names")) := by
  obtain ⟨h, X, G⟩ := T.hp
  exact He.glo_ok X G (T.c.fact 17 rfl)
theorem glo__law_before (T : Txt K mg) : mg "_law_before" = some (.ref (He.ga K "_law_before")) := by
  obtain ⟨h, X, G⟩ := T.hp
  exact He.glo_ok X G (T.c.fact 18 rfl)
theorem glo__law_put (T : Txt K mg) : mg "_law_put" = some (.ref (He.ga K "_law_put")) := by
  obtain ⟨h, X, G⟩ := T.hp
  exact He.glo_ok X G (T.c.fact 19 rfl)
theorem glo__law_same (T : Txt K mg) : mg "_law_same" = some (.ref (He.ga K "_law_same")) := by
  obtain ⟨h, X, G⟩ := T.hp
  exact He.glo_ok X G (T.c.fact 20 rfl)
theorem glo__law_caught (T : Txt K mg) : mg "_law_caught" = some (.ref (He.ga K "_law_caught")) := by
  obtain ⟨h, X, G⟩ := T.hp
  exact He.glo_ok X G (T.c.fact 21 rfl)
theorem glo__law_refused (T : Txt K mg) : mg "_law_refused" = some (.ref (He.ga K "_law_refused")) := by
  obtain ⟨h, X, G⟩ := T.hp
  exact He.glo_ok X G (T.c.fact 22 rfl)
theorem glo__law_text (T : Txt K mg) : mg "_law_text" = some (.ref (He.ga K "_law_text")) := by
  obtain ⟨h, X, G⟩ := T.hp
  exact He.glo_ok X G (T.c.fact 23 rfl)
theorem glo__law_told (T : Txt K mg) : mg "_law_told" = some (.ref (He.ga K "_law_told")) := by
  obtain ⟨h, X, G⟩ := T.hp
  exact He.glo_ok X G (T.c.fact 24 rfl)
theorem glo__law_begun (T : Txt K mg) : mg "_law_begun" = some (.ref (He.ga K "_law_begun")) := by
  obtain ⟨h, X, G⟩ := T.hp
  exact He.glo_ok X G (T.c.fact 25 rfl)
theorem glo_law (T : Txt K mg) : mg "law" = some (.ref (He.ga K "law")) := by
  obtain ⟨h, X, G⟩ := T.hp
  exact He.glo_ok X G (T.c.fact 26 rfl)
theorem glo_Sheet (T : Txt K mg) : mg "Sheet" = some (.ref (He.ga K "Sheet")) := by
  obtain ⟨h, X, G⟩ := T.hp
  exact He.glo_ok X G (T.c.fact 27 rfl)
theorem glo_Desk (T : Txt K mg) : mg "Desk" = some (.ref (He.ga K "Desk")) := by
  obtain ⟨h, X, G⟩ := T.hp
  exact He.glo_ok X G (T.c.fact 28 rfl)
theorem glo_NoText (T : Txt K mg) : mg "NoText" = some (.ref (He.ga K "NoText")) := by
  obtain ⟨h, X, G⟩ := T.hp
  exact He.glo_ok X G (T.c.fact 29 rfl)
theorem glo_NoRow (T : Txt K mg) : mg "NoRow" = some (.ref (He.ga K "NoRow")) := by
  obtain ⟨h, X, G⟩ := T.hp
  exact He.glo_ok X G (T.c.fact 30 rfl)
theorem glo_LampError (T : Txt K mg) : mg "LampError" = some (.ref (He.ga K "LampError")) := by
  obtain ⟨h, X, G⟩ := T.hp
  exact He.glo_ok X G (T.c.fact 31 rfl)
theorem glo_NoCue (T : Txt K mg) : mg "NoCue" = some (.ref (He.ga K "NoCue")) := by
  obtain ⟨h, X, G⟩ := T.hp
  exact He.glo_ok X G (T.c.fact 32 rfl)
theorem glo_NoName (T : Txt K mg) : mg "NoName" = some (.ref (He.ga K "NoName")) := by
  obtain ⟨h, X, G⟩ := T.hp
  exact He.glo_ok X G (T.c.fact 33 rfl)
theorem glo_Late (T : Txt K mg) : mg "Late" = some (.ref (He.ga K "Late")) := by
  obtain ⟨h, X, G⟩ := T.hp
  exact He.glo_ok X G (T.c.fact 34 rfl)
theorem glo_SIDES (T : Txt K mg) : mg "SIDES" = some (.ref (He.ga K "SIDES")) := by
  obtain ⟨h, X, G⟩ := T.hp
  exact He.glo_ok X G (T.c.fact 35 rfl)
theorem glo_FORMS (T : Txt K mg) : mg "FORMS" = some (.ref (He.ga K "FORMS")) := by
  obtain ⟨h, X, G⟩ := T.hp
  exact He.glo_ok X G (T.c.fact 36 rfl)
theorem free_len (T : Txt K mg) : mg "len" = none := by
  obtain ⟨h, X, G⟩ := T.hp
  exact He.free_ok X G (T.c.fact 37 rfl)
theorem free_isinstance (T : Txt K mg) : mg "isinstance" = none := by
  obtain ⟨h, X, G⟩ := T.hp
  exact He.free_ok X G (T.c.fact 38 rfl)
theorem free_int (T : Txt K mg) : mg "int" = none := by
  obtain ⟨h, X, G⟩ := T.hp
  exact He.free_ok X G (T.c.fact 39 rfl)
theorem free_bool (T : Txt K mg) : mg "bool" = none := by
  obtain ⟨h, X, G⟩ := T.hp
  exact He.free_ok X G (T.c.fact 40 rfl)
theorem free_range (T : Txt K mg) : mg "range" = none := by
  obtain ⟨h, X, G⟩ := T.hp
  exact He.free_ok X G (T.c.fact 41 rfl)
theorem free_list (T : Txt K mg) : mg "list" = none := by
  obtain ⟨h, X, G⟩ := T.hp
  exact He.free_ok X G (T.c.fact 42 rfl)
theorem free_str (T : Txt K mg) : mg "str" = none := by
  obtain ⟨h, X, G⟩ := T.hp
  exact He.free_ok X G (T.c.fact 43 rfl)
theorem free_tuple (T : Txt K mg) : mg "tuple" = none := by
  obtain ⟨h, X, G⟩ := T.hp
  exact He.free_ok X G (T.c.fact 44 rfl)
theorem free_zip (T : Txt K mg) : mg "zip" = none := by
  obtain ⟨h, X, G⟩ := T.hp
  exact He.free_ok X G (T.c.fact 45 rfl)
theorem free_enumerate (T : Txt K mg) : mg "enumerate" = none := by
  obtain ⟨h, X, G⟩ := T.hp
  exact He.free_ok X G (T.c.fact 46 rfl)
theorem free_ValueError (T : Txt K mg) : mg "ValueError" = none := by
  obtain ⟨h, X, G⟩ := T.hp
  exact He.free_ok X G (T.c.fact 47 rfl)
theorem free_sorted (T : Txt K mg) : mg "sorted" = none := by
  obtain ⟨h, X, G⟩ := T.hp
  exact He.free_ok X G (T.c.fact 48 rfl)
theorem free_max (T : Txt K mg) : mg "max" = none := by
  obtain ⟨h, X, G⟩ := T.hp
  exact He.free_ok X G (T.c.fact 49 rfl)
theorem int_MOST_times (T : Txt K mg) : ∃ t, mg "MOST_times" = some (.int 1000000000 t) := by
  obtain ⟨h, X, G⟩ := T.hp
  exact He.int_ok X G (T.c.fact 50 rfl)
theorem str_FIGURES_times (T : Txt K mg) : ∃ t, mg "FIGURES_times" = some (.str "0123456789" t) := by
  obtain ⟨h, X, G⟩ := T.hp
  exact He.str_ok X G (T.c.fact 51 rfl)
theorem str_LETTERS (T : Txt K mg) : ∃ t, mg "LETTERS" = some (.str "abcdefghijklmnopqrstuvwxyz" t) := by
  obtain ⟨h, X, G⟩ := T.hp
  exact He.str_ok X G (T.c.fact 52 rfl)
theorem int_MOST_cues (T : Txt K mg) : ∃ t, mg "MOST_cues" = some (.int 1000000000 t) := by
  obtain ⟨h, X, G⟩ := T.hp
  exact He.int_ok X G (T.c.fact 53 rfl)
theorem str_FIGURES_reader (T : Txt K mg) : ∃ t, mg "FIGURES_reader" = some (.str "0123456789" t) := by
  obtain ⟨h, X, G⟩ := T.hp
  exact He.str_ok X G (T.c.fact 54 rfl)
theorem int_MOST_reader (T : Txt K mg) : ∃ t, mg "MOST_reader" = some (.int 1000000000 t) := by
  obtain ⟨h, X, G⟩ := T.hp
  exact He.int_ok X G (T.c.fact 55 rfl)
theorem int_MOST_rows (T : Txt K mg) : ∃ t, mg "MOST_rows" = some (.int 1000000000 t) := by
  obtain ⟨h, X, G⟩ := T.hp
  exact He.int_ok X G (T.c.fact 56 rfl)
theorem int_LAST_TICK (T : Txt K mg) : ∃ t, mg "LAST_TICK" = some (.int 999999999999 t) := by
  obtain ⟨h, X, G⟩ := T.hp
  exact He.int_ok X G (T.c.fact 57 rfl)
theorem fact_exc_Late (T : Txt K mg) : (He.Fa.ok K (.exc "Late")) = true := T.c.fact 58 rfl
theorem fact_exc_NoRow (T : Txt K mg) : (He.Fa.ok K (.exc "NoRow")) = true := T.c.fact 59 rfl
theorem fact_exm_NoText_NoText (T : Txt K mg) : (He.Fa.ok K (.exm "NoText" "NoText" true)) = true := T.c.fact 60 rfl
theorem fact_exm_NoRow_LampError (T : Txt K mg) : (He.Fa.ok K (.exm "NoRow" "LampError" true)) = true := T.c.fact 61 rfl
theorem fact_exm_Late_LampError (T : Txt K mg) : (He.Fa.ok K (.exm "Late" "LampError" true)) = true := T.c.fact 62 rfl
theorem fact_cls_Sheet (T : Txt K mg) : (He.Fa.ok K (.cls "Sheet")) = true := T.c.fact 63 rfl
theorem fact_mk_Sheet (T : Txt K mg) : (He.Fa.ok K (.mkr "Sheet")) = true := T.c.fact 64 rfl
theorem fact_na_Sheet_cues (T : Txt K mg) : (He.Fa.ok K (.noat "Sheet" "cues")) = true := T.c.fact 65 rfl
theorem fact_na_Sheet_head (T : Txt K mg) : (He.Fa.ok K (.noat "Sheet" "head")) = true := T.c.fact 66 rfl
theorem fact_na_Sheet_parts (T : Txt K mg) : (He.Fa.ok K (.noat "Sheet" "parts")) = true := T.c.fact 67 rfl
theorem fact_m_Sheet_ended (T : Txt K mg) : (He.Fa.ok K (.meth "Sheet" "ended")) = true := T.c.fact 68 rfl
theorem fact_m_Sheet_take_cue (T : Txt K mg) : (He.Fa.ok K (.meth "Sheet" "take_cue")) = true := T.c.fact 69 rfl
theorem fact_m_Sheet_take_part (T : Txt K mg) : (He.Fa.ok K (.meth "Sheet" "take_part")) = true := T.c.fact 70 rfl
theorem fact_m_Sheet_take_telling (T : Txt K mg) : (He.Fa.ok K (.meth "Sheet" "take_telling")) = true := T.c.fact 71 rfl
theorem fact_m_Sheet_take (T : Txt K mg) : (He.Fa.ok K (.meth "Sheet" "take")) = true := T.c.fact 72 rfl
theorem fact_cls_Desk (T : Txt K mg) : (He.Fa.ok K (.cls "Desk")) = true := T.c.fact 73 rfl
theorem fact_mk_Desk (T : Txt K mg) : (He.Fa.ok K (.mkr "Desk")) = true := T.c.fact 74 rfl
theorem fact_na_Desk_begin (T : Txt K mg) : (He.Fa.ok K (.noat "Desk" "begin")) = true := T.c.fact 75 rfl
theorem fact_na_Desk_heard (T : Txt K mg) : (He.Fa.ok K (.noat "Desk" "heard")) = true := T.c.fact 76 rfl
theorem fact_na_Desk_lasts (T : Txt K mg) : (He.Fa.ok K (.noat "Desk" "lasts")) = true := T.c.fact 77 rfl
theorem fact_m_Desk_hear (T : Txt K mg) : (He.Fa.ok K (.meth "Desk" "hear")) = true := T.c.fact 78 rfl
theorem fact_m_Desk_rows (T : Txt K mg) : (He.Fa.ok K (.meth "Desk" "rows")) = true := T.c.fact 79 rfl
end
section
variable {K : PySem.W.Frag} {mg : Str → Option Value}
theorem exc_Late (T : Txt K mg) : PySem.W.excIn K (He.ga K "Late") He.veBase "ValueError.__new__" = true ∧ PySem.W.keepIn K (.ref (He.ga K "Late")) = true ∧ PySem.W.subIn K (.ref (He.ga K "Late")) (.type "BaseException") = some true ∧ PySem.W.typeIn K (.ref (He.ga K "Late")) = some (.type "type") := He.exc_ok (fact_exc_Late T)
theorem exc_NoRow (T : Txt K mg) : PySem.W.excIn K (He.ga K "NoRow") He.veBase "ValueError.__new__" = true ∧ PySem.W.keepIn K (.ref (He.ga K "NoRow")) = true ∧ PySem.W.subIn K (.ref (He.ga K "NoRow")) (.type "BaseException") = some true ∧ PySem.W.typeIn K (.ref (He.ga K "NoRow")) = some (.type "type") := He.exc_ok (fact_exc_NoRow T)
theorem exm_NoText_NoText (T : Txt K mg) : PySem.W.exmOne K (.ref (He.ga K "NoText")) (.ref (He.ga K "NoText")) = some true := He.exm_ok (fact_exm_NoText_NoText T)
theorem exm_NoRow_LampError (T : Txt K mg) : PySem.W.exmOne K (.ref (He.ga K "NoRow")) (.ref (He.ga K "LampError")) = some true := He.exm_ok (fact_exm_NoRow_LampError T)
theorem exm_Late_LampError (T : Txt K mg) : PySem.W.exmOne K (.ref (He.ga K "Late")) (.ref (He.ga K "LampError")) = some true := He.exm_ok (fact_exm_Late_LampError T)
theorem cls_Sheet (T : Txt K mg) : Cls K (He.ga K "Sheet") := He.cls_ok (fact_cls_Sheet T)
theorem mk_Sheet (T : Txt K mg) : Mk K (He.ga K "Sheet") (He.ma K (He.ga K "Sheet") "__init__") := He.mkr_ok (fact_mk_Sheet T)
theorem na_Sheet_cues (T : Txt K mg) : NoAttr K (He.ga K "Sheet") "cues" := He.noat_ok (fact_na_Sheet_cues T)
theorem na_Sheet_head (T : Txt K mg) : NoAttr K (He.ga K "Sheet") "head" := He.noat_ok (fact_na_Sheet_head T)
theorem na_Sheet_parts (T : Txt K mg) : NoAttr K (He.ga K "Sheet") "parts" := He.noat_ok (fact_na_Sheet_parts T)
theorem m_Sheet_ended (T : Txt K mg) : Meth K (He.ga K "Sheet") "ended" (He.ma K (He.ga K "Sheet") "ended") := He.meth_ok (fact_m_Sheet_ended T)
theorem m_Sheet_take_cue (T : Txt K mg) : Meth K (He.ga K "Sheet") "take_cue" (He.ma K (He.ga K "Sheet") "take_cue") := He.meth_ok (fact_m_Sheet_take_cue T)
theorem m_Sheet_take_part (T : Txt K mg) : Meth K (He.ga K "Sheet") "take_part" (He.ma K (He.ga K "Sheet") "take_part") := He.meth_ok (fact_m_Sheet_take_part T)
theorem m_Sheet_take_telling (T : Txt K mg) : Meth K (He.ga K "Sheet") "take_telling" (He.ma K (He.ga K "Sheet") "take_telling") := He.meth_ok (fact_m_Sheet_take_telling T)
theorem m_Sheet_take (T : Txt K mg) : Meth K (He.ga K "Sheet") "take" (He.ma K (He.ga K "Sheet") "take") := He.meth_ok (fact_m_Sheet_take T)
theorem cls_Desk (T : Txt K mg) : Cls K (He.ga K "Desk") := He.cls_ok (fact_cls_Desk T)
theorem mk_Desk (T : Txt K mg) : Mk K (He.ga K "Desk") (He.ma K (He.ga K "Desk") "__init__") := He.mkr_ok (fact_mk_Desk T)
theorem na_Desk_begin (T : Txt K mg) : NoAttr K (He.ga K "Desk") "begin" := He.noat_ok (fact_na_Desk_begin T)
theorem na_Desk_heard (T : Txt K mg) : NoAttr K (He.ga K "Desk") "heard" := He.noat_ok (fact_na_Desk_heard T)
theorem na_Desk_lasts (T : Txt K mg) : NoAttr K (He.ga K "Desk") "lasts" := He.noat_ok (fact_na_Desk_lasts T)
theorem m_Desk_hear (T : Txt K mg) : Meth K (He.ga K "Desk") "hear" (He.ma K (He.ga K "Desk") "hear") := He.meth_ok (fact_m_Desk_hear T)
theorem m_Desk_rows (T : Txt K mg) : Meth K (He.ga K "Desk") "rows" (He.ma K (He.ga K "Desk") "rows") := He.meth_ok (fact_m_Desk_rows T)

end
namespace Hd
abbrev R : PySem.W.OpenRow := PySem.W.OpenLaw.row PySem.Challenge.rw_lampcues_k92_rows_in_order
abbrev hk : PySem.W.Hook := L2.hookW 6 fa fn [(fun K => He.ga K "FORMS", formsKeys)] exB
def ob (s : PySem.W.SharedT) : He.AlT × Bool := L2.obsW 6 fa fn [(fun K => He.ga K "FORMS", formsKeys)] exB (HandSHeadRun.getT s)
theorem ob_eq (s : PySem.W.SharedT) : ob s = hk.obs s.abs := L2.obsW_eq (HandSHeadRun.getT_eq s)
def loose0 : List PySem.Str := ["_wall", "LampError", "NoText", "NoTime", "NoSlot", "NoWorth", "NoPart", "NoCue", "Late", "NoName", "NoRow", "MOST_times", "FIGURES_times", "is_time", "are_figures", "time_of", "LETTERS", "SIDES", "MOST_cues", "is_amid", "is_lamp", "is_slot", "is_worth", "look_at_slots", "look_at_worths", "Part", "are_parts", "Cue", "FIGURES_reader", "MOST_reader"]
def loose1 : List PySem.Str := ["whole_of", "ticks_of", "times_of", "head_of", "Sheet", "read", "MOST_rows", "LAST_TICK", "FORMS", "ticks_by", "number_by", "thing_by", "things_of", "row_of", "Desk", "_law_cell_at", "_law_number", "_law_names", "_law_before", "_law_put", "_law_same", "_law_caught", "_law_refused", "_law_text", "_law_told", "_law_begun"]
def loose : List PySem.Str := loose0 ++ loose1
theorem run_false (w : World) : HandSHeadRun.RunEq R (PySem.W.view R.prog [63]) hk ob 12000 loose (w.withFollow "special-get-raises" false) := by
  intro os
  kernel_rfl
theorem run_true (w : World) : HandSHeadRun.RunEq R (PySem.W.view R.prog [63]) hk ob 12000 loose (w.withFollow "special-get-raises" true) := by
  intro os
  kernel_rfl
theorem run (w : World) : HandSHeadRun.RunEq R (PySem.W.view R.prog [63]) hk ob 12000 loose w := by
  exact PySem.W.byRow2 "special-get-raises" (P := fun w => HandSHeadRun.RunEq R (PySem.W.view R.prog [63]) hk ob 12000 loose w) run_false run_true w
end Hd
section
variable {P : Program} {w : World} {K : PySem.W.Frag} {mg : Str → Option Value} {base : Heap}
/-! ### the law's small helpers -/
def spCell (K : PySem.W.Frag) : Sp := fun vs H Q _ => ∃ (a : Addr) (k : Int), vs = [.ref a, .int k] ∧ (∃ ns : List Int, SqL K H a (ns.map V.int)) ∧ 0 ≤ k ∧ ∀ r : Int, Q (.int r) H
theorem ok_l_cell_at (T : Txt K mg) : ∃ fd, FnOk P w K mg base CX0 1 (He.fAd K ("_law_cell_at", none)) fd ["_law_script", "_law_k"] (spCell K) ∧ FunD K "_law_cell_at" "_law_cell_at" (defArgs s_l_cell_at) (defBody s_l_cell_at) (defScope s_l_cell_at) [] [] (He.fAd K ("_law_cell_at", none)) fd := by
  obtain ⟨fd, F⟩ := T.c.def_ 25 (d := d_l_cell_at) rfl
  refine ⟨fd, F.ok sc_l_cell_at (by walk_at "g94len") (fun cdv A outer st H vs Q E hr h => ?_), F⟩
  · obtain ⟨a, i, rfl, ⟨ns, hS⟩, i0, k⟩ := h
    refine ⟨_, PSs.nox (pss_cons (ps_if (pt_cmpR op_lt (pv 1) (pe_callB call_len_seq (by rfl) (free_len T) (by decide +kernel) (pa_cons (pv 0) pa_nil)) (nomark _)) (pss_one (ps_ret (pe_ix ix_list (pv 0) (pv 1) (fun _ _ => rfl)))) pss_nil)
        (pss_one (ps_ret pe_int))), ?_⟩
    walk_at "rds"
    refine ⟨_, _, rfl, .inl hS, ?_⟩
    walk_at "rds"
    walk_at "ri" <;> intro c1
    · obtain ⟨v, hv, hv2⟩ := atI_lt i0 c1
      obtain ⟨z, rfl, _, _⟩ := int_at hv2
      walk_at "rds"
      exact ⟨_, _, _, _, rfl, rfl, hS, hv, k _⟩
    · walk_at "rds"
      exact k _

def isFig (c : Nat) : Bool := decide (48 ≤ c) && decide (c ≤ 57)
def figs : List Nat := [48, 49, 50, 51, 52, 53, 54, 55, 56, 57]
theorem figs_eq : ("0123456789" : Str) = SX.S figs := by decide +kernel
theorem fig_iff {c : Nat} : c ∈ figs ↔ isFig c = true := by
  simp only [figs, List.mem_cons, List.not_mem_nil, or_false, isFig, Bool.and_eq_true, decide_eq_true_eq]
  omega
/-- the number, sign by sign -/
def dstep (t : Int) (c : Nat) : Int := 10 * t + ((c : Int) - 48)
def val (l : List Nat) : Int := l.foldl dstep 0
theorem val_snoc (l : List Nat) (c : Nat) : val (l ++ [c]) = 10 * val l + ((c : Int) - 48) := by
  unfold val
  rw [List.foldl_append]
  rfl
theorem val_bound : ∀ (n : Nat) (l : List Nat), l.length = n → l.all isFig = true → 0 ≤ val l ∧ val l < 10 ^ n
  | 0, l, h, _ => by
    have e : l = [] := List.length_eq_zero_iff.mp h
    subst e
    exact ⟨Int.le_refl _, by show (0 : Int) < 1; decide⟩
  | n + 1, l, h, ha => by
    rcases List.eq_nil_or_concat l with e | ⟨r, c, e⟩
    · rw [e] at h
      cases h
    · rw [List.concat_eq_append] at e
      subst e
      rw [List.length_append] at h
      rw [List.all_append, Bool.and_eq_true] at ha
      have hr := val_bound n r (by simp only [List.length_cons, List.length_nil] at h; omega) ha.1
      have hc : isFig c = true := by simpa using ha.2
      unfold isFig at hc
      rw [Bool.and_eq_true, decide_eq_true_eq, decide_eq_true_eq] at hc
      rw [val_snoc, Int.pow_succ]
      omega
theorem val_digits {l : List Nat} (h : l.all isFig = true) : val l = ((NumText.digitsVal l : Nat) : Int) := by
  have key : ∀ (l : List Nat) (a : Nat), l.all isFig = true → l.foldl dstep (a : Int) = ((l.foldl (fun acc c => acc * 10 + (c - 48)) a : Nat) : Int) := by
    intro l
    induction l with
    | nil =>
      intro a _
      rfl
    | cons c r ih =>
      intro a h
      rw [List.all_cons, Bool.and_eq_true] at h
      have hc := h.1
      unfold isFig at hc
      rw [Bool.and_eq_true, decide_eq_true_eq, decide_eq_true_eq] at hc
      rw [List.foldl_cons, List.foldl_cons, ← ih _ h.2]
      congr 1
      unfold dstep
      omega
  exact key l 0 h
theorem find_fig {c : Nat} (h : isFig c = true) : Txt.find (SX.S figs) (SX.S [c]) = (c : Int) - 48 := by
  unfold isFig at h
  rw [Bool.and_eq_true, decide_eq_true_eq, decide_eq_true_eq] at h
  rcases (by omega : c = 48 ∨ c = 49 ∨ c = 50 ∨ c = 51 ∨ c = 52 ∨ c = 53 ∨ c = 54 ∨ c = 55 ∨ c = 56 ∨ c = 57) with rfl | rfl | rfl | rfl | rfl | rfl | rfl | rfl | rfl | rfl <;> decide +kernel
theorem len_S (l : List Nat) : (SX.S l).length = l.length := SX.S_len l

/-- a value of another type -/
def IsA (K : PySem.W.Frag) (H : Hp) (v : V) (t : String) (b : Bool) : Prop := ∃ u, TyX K H v u ∧ PySem.W.kitOne K u (.type t) = some b

def TimeSays (K : PySem.W.Frag) (H : Hp) (v : V) (b : Bool) : Prop := (∃ n : Int, v = .int n ∧ b = decide (0 ≤ n ∧ n ≤ 1000000000)) ∨ (∃ t, v = .bl t ∧ b = false) ∨ (IsA K H v "int" false ∧ b = false)
def spTime (K : PySem.W.Frag) : Sp := fun vs H Q _ => ∃ (v : V) (b : Bool), vs = [v] ∧ TimeSays K H v b ∧ Q (.bl b) H
theorem ok_is_time (T : Txt K mg) : ∃ fd, FnOk P w K mg base CX0 1 (He.fAd K ("is_time", none)) fd ["thing"] (spTime K) ∧ FunD K "is_time" "is_time" (defArgs s_is_time) (defBody s_is_time) (defScope s_is_time) [] [] (He.fAd K ("is_time", none)) fd := by
  obtain ⟨fd, F⟩ := T.c.def_ 1 (d := d_is_time) rfl
  obtain ⟨t_MOST_times, g_MOST_times⟩ := int_MOST_times T
  refine ⟨fd, F.ok sc_is_time (by walk_at "g94len") (fun cdv A outer st H vs Q E hr h => ?_), F⟩
  · obtain ⟨v, b, rfl, hs, k⟩ := h
    refine ⟨_, PSs.nox (pss_one (ps_ret (pe_and (pe_callB call_isi (by rfl) (free_isinstance T) (by decide +kernel) (pa_cons (pv 0) (pa_cons (pe_bltn (v := .ty "int") (by rfl) (free_int T) (by decide +kernel) rfl) pa_nil))) (pe_and (pe_not (pe_callB call_isi (by rfl) (free_isinstance T) (by decide +kernel) (pa_cons (pv 0) (pa_cons (pe_bltn (v := .ty "bool") (by rfl) (free_bool T) (by decide +kernel) rfl) pa_nil)))) (pe_one (pe_chain op_le op_le pe_int (pv 0) (pe_glob (v := .int 1000000000) rfl g_MOST_times ⟨_, rfl⟩))))))), ?_⟩
    rcases hs with ⟨n, rfl, rfl⟩ | ⟨t, rfl, rfl⟩ | ⟨⟨u, h1, h2⟩, rfl⟩
    · walk_at "rds"
      walk_at "ri" <;> intro c1
      · walk_at "rds"
        rw [show decide (0 ≤ n ∧ n ≤ 1000000000) = decide (n ≤ 1000000000) from decide_eq_decide.mpr ⟨fun q => q.2, fun q => ⟨c1, q⟩⟩] at k
        exact k
      · rw [decide_eq_false (fun q : 0 ≤ n ∧ n ≤ 1000000000 => c1 q.1)] at k
        exact k
    · walk_at "rds"
      exact k
    · refine ⟨_, rfl, _, _, _, _, false, rfl, .ty _, h1, h2, ?_⟩
      walk_at "rds"
      exact k

abbrev cNT (K : PySem.W.Frag) : Addr := He.ga K "NoText"
/-- the heap behind NoText(..) -/
theorem raised_same {H : Hp} {a d C : Addr} {fs : List (Str × V)} (ha : H a = none) (hd : H d = none) : Same H (upd (del (upd (upd (upd H a (exo a C none)) d (exd d fs)) a (exo a C (some d))) a) d (.xd fs)) := fun b u e => by
  have n1 : b ≠ a := ne_of_none e ha
  have n2 : b ≠ d := ne_of_none e hd
  rw [upd_ne n2, del_ne n1, upd_ne n1, upd_ne n2, upd_ne n1]
  exact e
def spNoText (K : PySem.W.Frag) : Sp := fun vs H Q _ => ∃ (a : Addr) (w : V) (n : Int), vs = [.ref a, w, .int n] ∧ H a = some (exo a (cNT K) none) ∧ ∀ d : Addr, H d = none → d ≠ a → Q .non (upd (upd H d (exd d [("row", .int n)])) a (exo a (cNT K) (some d)))
theorem ok_NoText_init (T : Txt K mg) : ∃ fd, FnOk P w K mg base CX0 1 (He.fAd K ("NoText", some "__init__")) fd ["self", "words", "row"] (spNoText K) ∧ FunD K "__init__" "NoText.__init__" (defArgs s_NoText_init) (defBody s_NoText_init) (defScope s_NoText_init) [V.int 0] [] (He.fAd K ("NoText", some "__init__")) fd := by
  obtain ⟨fd, F⟩ := T.c.def_ 0 (d := d_NoText_init) rfl
  refine ⟨fd, F.ok sc_NoText_init (by walk_at "g94len") (fun cdv A outer st H vs Q E hr h => ?_), F⟩
  · obtain ⟨a, w, n, rfl, ha, k⟩ := h
    refine ⟨_, PSs.nox (pss_cons (ps_expr (pe_ownInit (own_LampError T) rfl (glo_LampError T) (pa_cons (pv 0) (pa_cons (pv 1) pa_nil))))
        (pss_one (ps_ost (pv 0) (pv 2)))), ?_⟩
    walk_at "wks"
    refine ⟨a, cNT K, [w], rfl, Nat.le_of_ble_eq_true rfl, oex_NoText T, ha, ?_⟩
    exact ⟨_, rfl, _, rfl, a, cNT K, rfl, oex_NoText T, xn_NoText_row T, .inl ⟨ha, fun dx hd ne => k dx hd ne⟩⟩
/-! ### plain -/
def tail3 (r : Nat) : List Nat := if r % 100 = 0 then [48 + r / 100] else if r % 10 = 0 then [48 + r / 100, 48 + r / 10 % 10] else [48 + r / 100, 48 + r / 10 % 10, 48 + r % 10]
def written (n : Nat) : List Nat := if n % 1000 = 0 then TL.numL (n / 1000) else TL.numL (n / 1000) ++ [46] ++ tail3 (n % 1000)
theorem str_num (n : Nat) : Str.ofString (toString ((n : Nat) : Int)) = SX.S (TL.numL n) := (SX.S_tl _).symm.trans (congrArg SX.S (TL.tl_num n))
theorem pad_all : ∀ r : Fin 1000, (decide (r.val = 0) || decide ((Txt.rstripChars (Txt.zfill (SX.S (TL.numL r.val)) 3) (SX.S [48])).cps.toList = tail3 r.val)) = true := by decide +kernel
theorem pad_tail {r : Nat} (h0 : r ≠ 0) (h1 : r < 1000) : Txt.rstripChars (Txt.zfill (SX.S (TL.numL r)) 3) (SX.S [48]) = SX.S (tail3 r) := by
  have h := pad_all ⟨r, h1⟩
  rw [Bool.or_eq_true, decide_eq_true_eq, decide_eq_true_eq] at h
  rcases h with h | h
  · exact absurd h h0
  · exact (SX.S_tl _).symm.trans (congrArg SX.S h)
theorem tail_all : ∀ r : Fin 1000, (decide (r.val = 0) || ((tail3 r.val).all isFig && (decide (1 ≤ (tail3 r.val).length) && (decide ((tail3 r.val).length ≤ 3) && (decide ((tail3 r.val).getLast? ≠ some 48) && decide (val ((tail3 r.val ++ [48, 48]).take 3) = (r.val : Int))))))) = true := by decide +kernel
theorem tail_facts {r : Nat} (h0 : r ≠ 0) (h1 : r < 1000) : (tail3 r).all isFig = true ∧ 1 ≤ (tail3 r).length ∧ (tail3 r).length ≤ 3 ∧ (tail3 r).getLast? ≠ some 48 ∧ val ((tail3 r ++ [48, 48]).take 3) = (r : Int) := by
  have h := tail_all ⟨r, h1⟩
  simp only [Bool.or_eq_true, Bool.and_eq_true, decide_eq_true_eq] at h
  rcases h with h | h
  · exact absurd h h0
  · exact h
theorem zfill_all : ∀ r : Fin 1000, decide ((Txt.zfill (SX.S (TL.numL r.val)) 3).length ≤ 3) = true := by decide +kernel
theorem zfill_len {r : Nat} (h : r < 1000) : (Txt.zfill (SX.S (TL.numL r)) 3).length ≤ 3 := of_decide_eq_true (zfill_all ⟨r, h⟩)
theorem numL_fig (n : Nat) : (TL.numL n).all isFig = true := by
  rw [List.all_eq_true]
  intro c hc
  have h := TL.numL_digits n c hc
  unfold isFig
  rw [Bool.and_eq_true, decide_eq_true_eq, decide_eq_true_eq]
  omega
theorem numL_valI (n : Nat) : val (TL.numL n) = (n : Int) := by
  rw [val_digits (numL_fig n), TL.numL_val]
theorem numL_head : ∀ n : Nat, n ≠ 0 → ∃ c r, TL.numL n = c :: r ∧ c ≠ 48 := by
  intro n
  induction n using Nat.strongRecOn with
  | _ n ih =>
    intro h0
    by_cases h : n < 10
    · exact ⟨48 + n, [], TL.numL_lt h, by omega⟩
    · obtain ⟨c, r, e, hc⟩ := ih (n / 10) (by omega) (by omega)
      exact ⟨c, r ++ [48 + n % 10], by rw [TL.numL_step (by omega), e]; rfl, hc⟩
theorem part_w (n : Nat) : ∃ pt rs : List Nat, Txt.partition (SX.S (written n)) "." = (SX.S (TL.numL (n / 1000)), SX.S pt, SX.S rs) ∧ ((n % 1000 = 0 ∧ pt = [] ∧ rs = []) ∨ (n % 1000 ≠ 0 ∧ pt = [46] ∧ rs = tail3 (n % 1000))) := by
  have hd : (("." : Str)) = SX.S [46] := by decide +kernel
  have hf : 46 ∉ TL.numL (n / 1000) := TL.numL_free (.inl (by decide))
  rw [hd]
  unfold written
  by_cases h : n % 1000 = 0
  · rw [if_pos h]
    exact ⟨[], [], SX.partition_none (by decide) (SX.par_head_none hf), .inl ⟨h, rfl, rfl⟩⟩
  · rw [if_neg h]
    refine ⟨[46], tail3 (n % 1000), SX.partition_some (by decide) ?_, .inr ⟨h, rfl, rfl⟩⟩
    rw [List.append_assoc]
    exact SX.par_head _ hf
theorem written_len {n : Nat} (h : n ≤ 1000000000) : (written n).length ≤ 12 := by
  have h1 := TL.numL_len (n := n / 1000) (k := 8) (by decide) (by show n / 1000 < 100000000; omega)
  have h2 : (tail3 (n % 1000)).length ≤ 3 := by
    unfold tail3
    split
    · exact (by decide : 1 ≤ 3)
    · split
      · exact (by decide : 2 ≤ 3)
      · exact (by decide : 3 ≤ 3)
  unfold written
  split
  · omega
  · rw [List.length_append, List.length_append]
    show (TL.numL (n / 1000)).length + 1 + _ ≤ 12
    omega

/-! ### texts that write a time -/
theorem fig_of {c : Nat} (h : isFig c = true) : 48 ≤ c ∧ c ≤ 57 := by
  unfold isFig at h
  rw [Bool.and_eq_true, decide_eq_true_eq, decide_eq_true_eq] at h
  exact h
theorem canon : ∀ (k : Nat) (l : List Nat), l.length = k → l ≠ [] → l.all isFig = true → (l = [48] ∨ l.head? ≠ some 48) → TL.numL (val l).toNat = l
  | 0, l, h, hn, _, _ => absurd (List.length_eq_zero_iff.mp h) hn
  | k + 1, l, h, hn, ha, hz => by
    rcases List.eq_nil_or_concat l with e | ⟨r, c, e⟩
    · exact absurd e hn
    · rw [List.concat_eq_append] at e
      subst e
      rw [List.length_append] at h
      rw [List.all_append, Bool.and_eq_true] at ha
      have hc := fig_of (c := c) (by simpa using ha.2)
      have hb := val_bound _ r rfl ha.1
      rw [val_snoc]
      by_cases hr : r = []
      · subst hr
        have e0 : val [] = 0 := rfl
        rw [e0, show (10 * 0 + ((c : Int) - 48)).toNat = c - 48 by omega, TL.numL_lt (by omega)]
        show [48 + (c - 48)] = [c]
        rw [show 48 + (c - 48) = c by omega]
      · have hz2 : r.head? ≠ some 48 := by
          rcases hz with hz | hz
          · cases r with
            | nil => exact absurd rfl hr
            | cons x s =>
              have := congrArg List.length hz
              rw [List.length_append] at this
              simp at this
          · cases r with
            | nil => exact absurd rfl hr
            | cons x s => exact hz
        have ih := canon k r (by simpa using h) hr ha.1 (.inr hz2)
        have v1 : 1 ≤ (val r).toNat := by
          rcases Nat.eq_zero_or_pos (val r).toNat with e | e
          · rw [e, TL.numL_lt (by decide)] at ih
            rw [← ih] at hz2
            exact absurd rfl hz2
          · exact e
        rw [TL.numL_step (by omega), show (10 * val r + ((c : Int) - 48)).toNat / 10 = (val r).toNat by omega, ih, show 48 + (10 * val r + ((c : Int) - 48)).toNat % 10 = c by omega]
theorem tail_inv {rs : List Nat} (hn : rs ≠ []) (hl : rs.length ≤ 3) (ha : rs.all isFig = true) (hz : rs.getLast? ≠ some 48) : ∃ r, r ≠ 0 ∧ r < 1000 ∧ rs = tail3 r := by
  match rs, hn, hl, ha, hz with
  | [x], _, _, ha, hz =>
    have hx := fig_of (c := x) (by simpa using ha)
    have nx : x ≠ 48 := fun e => hz (by rw [e]; rfl)
    refine ⟨100 * (x - 48), by omega, by omega, ?_⟩
    unfold tail3
    rw [if_pos (by omega), show 48 + 100 * (x - 48) / 100 = x by omega]
  | [x, y], _, _, ha, hz =>
    rw [List.all_cons, Bool.and_eq_true] at ha
    have hx := fig_of ha.1
    have hy := fig_of (c := y) (by simpa using ha.2)
    have nx : y ≠ 48 := fun e => hz (by rw [e]; rfl)
    refine ⟨100 * (x - 48) + 10 * (y - 48), by omega, by omega, ?_⟩
    unfold tail3
    rw [if_neg (by omega), if_pos (by omega), show 48 + (100 * (x - 48) + 10 * (y - 48)) / 100 = x by omega, show 48 + (100 * (x - 48) + 10 * (y - 48)) / 10 % 10 = y by omega]
  | [x, y, z], _, _, ha, hz =>
    rw [List.all_cons, List.all_cons, Bool.and_eq_true, Bool.and_eq_true] at ha
    have hx := fig_of ha.1
    have hy := fig_of ha.2.1
    have hw := fig_of (c := z) (by simpa using ha.2.2)
    have nx : z ≠ 48 := fun e => hz (by rw [e]; rfl)
    refine ⟨100 * (x - 48) + 10 * (y - 48) + (z - 48), by omega, by omega, ?_⟩
    unfold tail3
    rw [if_neg (by omega), if_neg (by omega), show 48 + (100 * (x - 48) + 10 * (y - 48) + (z - 48)) / 100 = x by omega, show 48 + (100 * (x - 48) + 10 * (y - 48) + (z - 48)) / 10 % 10 = y by omega, show 48 + (100 * (x - 48) + 10 * (y - 48) + (z - 48)) % 10 = z by omega]
  | _ :: _ :: _ :: _ :: _, _, hl, _, _ => simp at hl
def GoodS (a : List Nat) : Prop := a ≠ [] ∧ a.all isFig = true ∧ (a = [48] ∨ a.head? ≠ some 48)
def GoodR (rs : List Nat) : Prop := rs ≠ [] ∧ rs.length ≤ 3 ∧ rs.all isFig = true ∧ rs.getLast? ≠ some 48
structure Parts (l a pt rs : List Nat) : Prop where
  h : (pt = [] ∧ rs = [] ∧ a = l ∧ 46 ∉ l) ∨ (pt = [46] ∧ l = a ++ 46 :: rs ∧ 46 ∉ a)
theorem split_first {c : Nat} : ∀ {l : List Nat}, c ∈ l → ∃ a r, l = a ++ c :: r ∧ c ∉ a
  | x :: l, h => by
    by_cases e : x = c
    · exact ⟨[], l, by rw [e]; rfl, by simp⟩
    · rcases List.mem_cons.mp h with h | h
      · exact absurd h.symm e
      · obtain ⟨a, r, e1, e2⟩ := split_first h
        refine ⟨x :: a, r, by rw [e1]; rfl, fun q => ?_⟩
        rcases List.mem_cons.mp q with q | q
        · exact e q.symm
        · exact e2 q
theorem split_uniq {c : Nat} : ∀ {a b r s : List Nat}, a ++ c :: r = b ++ c :: s → c ∉ a → c ∉ b → a = b ∧ r = s
  | [], [], r, s, e, _, _ => ⟨rfl, (List.cons.inj e).2⟩
  | [], x :: b, r, s, e, _, h => absurd (by rw [(List.cons.inj e).1]; exact List.mem_cons_self) h
  | x :: a, [], r, s, e, h, _ => absurd (by rw [← (List.cons.inj e).1]; exact List.mem_cons_self) h
  | x :: a, y :: b, r, s, e, h1, h2 => by
    obtain ⟨e1, e2⟩ := List.cons.inj e
    obtain ⟨q1, q2⟩ := split_uniq e2 (fun q => h1 (List.mem_cons_of_mem _ q)) fun q => h2 (List.mem_cons_of_mem _ q)
    exact ⟨by rw [e1, q1], q2⟩
theorem parts (l : List Nat) : ∃ a pt rs : List Nat, Txt.partition (SX.S l) "." = (SX.S a, SX.S pt, SX.S rs) ∧ Parts l a pt rs := by
  have hd : (("." : Str)) = SX.S [46] := by decide +kernel
  rw [hd]
  by_cases h : 46 ∈ l
  · obtain ⟨a, r, e, q⟩ := split_first h
    refine ⟨a, [46], r, ?_, ⟨.inr ⟨rfl, e, q⟩⟩⟩
    rw [e]
    exact SX.partition_some (by decide) (SX.par_head r q)
  · exact ⟨l, [], [], SX.partition_none (by decide) (SX.par_head_none h), ⟨.inl ⟨rfl, rfl, rfl, h⟩⟩⟩
theorem free_num (n : Nat) : 46 ∉ TL.numL n := TL.numL_free (.inl (by decide))
theorem numL_good (n : Nat) : GoodS (TL.numL n) := by
  refine ⟨TL.numL_ne n, numL_fig n, ?_⟩
  by_cases h : n = 0
  · exact .inl (by rw [h]; exact TL.numL_lt (by decide))
  · obtain ⟨c, r, e, hc⟩ := numL_head n h
    rw [e]
    exact .inr fun q => hc (Option.some.inj q)
theorem good_written {l a pt rs : List Nat} (p : Parts l a pt rs) {n : Nat} (hn : n ≤ 1000000000) (e : l = written n) :
    GoodS a ∧ a.length ≤ 7 ∧ ((pt = [] ∧ (n : Int) = 1000 * val a) ∨ (pt = [46] ∧ GoodR rs ∧ (n : Int) = 1000 * val a + val ((rs ++ [48, 48]).take 3))) := by
  have hl := TL.numL_len (n := n / 1000) (k := 7) (by decide) (by show n / 1000 < 10000000; omega)
  unfold written at e
  by_cases h0 : n % 1000 = 0
  · rw [if_pos h0] at e
    rcases p.h with ⟨rfl, rfl, rfl, _⟩ | ⟨_, e2, _⟩
    · rw [e]
      refine ⟨numL_good _, hl, .inl ⟨rfl, ?_⟩⟩
      rw [numL_valI]
      omega
    · refine absurd ?_ (free_num (n / 1000))
      rw [← e, e2]
      simp
  · rw [if_neg h0, List.append_assoc] at e
    rcases p.h with ⟨_, _, _, q⟩ | ⟨rfl, e2, q⟩
    · refine absurd ?_ q
      rw [e]
      simp
    · have e : l = TL.numL (n / 1000) ++ 46 :: tail3 (n % 1000) := e
      obtain ⟨rfl, rfl⟩ := split_uniq (e2.symm.trans e) q (free_num _)
      obtain ⟨t1, t2, t3, t4, t5⟩ := tail_facts (r := n % 1000) h0 (by omega)
      refine ⟨numL_good _, hl, .inr ⟨rfl, ⟨(fun z => by rw [z] at t2; cases t2), t3, t1, t4⟩, ?_⟩⟩
      rw [t5, numL_valI]
      omega
theorem written_good {l a pt rs : List Nat} (p : Parts l a pt rs) (ga : GoodS a) : (pt = [] → ∃ n : Nat, (n : Int) = 1000 * val a ∧ l = written n) ∧
    (pt = [46] → GoodR rs → ∃ n : Nat, (n : Int) = 1000 * val a + val ((rs ++ [48, 48]).take 3) ∧ l = written n) := by
  have hc := canon _ a rfl ga.1 ga.2.1 ga.2.2
  have hb := val_bound _ a rfl ga.2.1
  refine ⟨fun e => ?_, fun e gr => ?_⟩
  · rcases p.h with ⟨_, _, rfl, _⟩ | ⟨e2, _⟩
    · refine ⟨1000 * (val a).toNat, by omega, ?_⟩
      unfold written
      rw [if_pos (by omega), show 1000 * (val a).toNat / 1000 = (val a).toNat by omega, hc]
    · rw [e] at e2
      cases e2
  · rcases p.h with ⟨e2, _⟩ | ⟨_, e2, _⟩
    · rw [e] at e2
      cases e2
    · obtain ⟨r, r0, r1, rfl⟩ := tail_inv gr.1 gr.2.1 gr.2.2.1 gr.2.2.2
      have t5 := (tail_facts r0 r1).2.2.2.2
      refine ⟨1000 * (val a).toNat + r, by rw [t5]; omega, ?_⟩
      unfold written
      rw [if_neg (by omega), show (1000 * (val a).toNat + r) / 1000 = (val a).toNat by omega, hc, show (1000 * (val a).toNat + r) % 1000 = r by omega, e2, List.append_assoc]
      rfl

theorem lg {n : Nat} (h : n < 2 ^ 64) : ((n : Nat) : Int).natAbs.log2 < 1920 := Nat.lt_of_lt_of_le (PySem.Flt.log2_lt_of (k := 64) (by decide) (by omega)) (by decide)
def spText (K : PySem.W.Frag) : Sp := fun vs H Q _ => ∃ n : Nat, vs = [.int n] ∧ n ≤ 1000000000 ∧ ∀ H' : Hp, Same H H' → Q (.str (SX.S (written n))) H'
def spFigs : Sp := fun vs H Q _ => ∃ (l : List Nat) (m : Int), vs = [.str (SX.S l), .int m] ∧ l.length ≤ 10000 ∧ Q (.bl (decide (l ≠ [] ∧ (l.length : Int) ≤ m ∧ l.all isFig = true))) H
theorem ok_are_figures (T : Txt K mg) : ∃ fd, FnOk P w K mg base CX0 1 (He.fAd K ("are_figures", none)) fd ["text", "most"] spFigs ∧ FunD K "are_figures" "are_figures" (defArgs s_are_figures) (defBody s_are_figures) (defScope s_are_figures) [] [] (He.fAd K ("are_figures", none)) fd := by
  obtain ⟨fd, F⟩ := T.c.def_ 2 (d := d_are_figures) rfl
  obtain ⟨t_FIGURES_times, g_FIGURES_times⟩ := str_FIGURES_times T
  refine ⟨fd, F.ok sc_are_figures (by walk_at "g94len") (fun cdv A outer st H vs Q E hr h => ?_), F⟩
  · obtain ⟨l, m, rfl, hl, k⟩ := h
    refine ⟨_, PSs.nox (pss_cons (ps_if (PW.pt (pw_or (pt_cmpR op_eq (pv 0) pe_str (nomark _)) (pw_or1 (pt_cmpR op_gt (pe_callB call_len_str (by rfl) (free_len T) (by decide +kernel) (pa_cons (pv 0) pa_nil)) (pv 1) (nomark _))))) (pss_one (ps_ret pe_bl)) pss_nil)
        (pss_cons (ps_for PassesOwn.never rfl (pi_str (pv 0)) (pg_name (i := 2) sc_are_figures.nd rfl (Or.inl rfl)) (pss_one (ps_if (pt_cmpR op_notIn_sign (pv 2) (pe_glob (v := .str "0123456789") rfl g_FIGURES_times ⟨_, rfl⟩) rfl) (pss_one (ps_ret pe_bl)) pss_nil)))
        (pss_one (ps_ret pe_bl)))), ?_⟩
    have hsz : (SX.S l).length ≤ sizeLine := by
      rw [len_S]
      exact small_size (by omega)
    have no : ¬ (l ≠ [] ∧ (l.length : Int) ≤ m ∧ l.all isFig = true) → Q (.bl false) H := fun q => by
      rw [decide_eq_false q] at k
      exact k
    walk_at "rds"
    refine iteS (b := []) (by decide +kernel) (fun e0 => ?_) (fun e0 => ?_)
    · walk_at "rds"
      exact no fun q => q.1 e0
    walk_at "rds"
    walk_at "ri" <;> intro c1
    · walk_at "rds"
      exact no fun q => by
        rw [len_S] at c1
        have := q.2.1
        omega
    refine ⟨_, rfl, _, rfl, for_text (l := l) (fun i σ' H' => ∃ v, σ' = [some (.str (SX.S l)), some (.int m), v] ∧ H' = H ∧ (l.take i).all isFig = true) ⟨_, rfl, rfl, rfl⟩ ?_ ?_⟩
    · rintro i c σ' H' hc ⟨v, rfl, rfl, ha⟩
      refine ⟨_, rfl, c, _, rfl, rfl, _, rfl, ?_⟩
      rw [figs_eq]
      refine iteND (fun hn => ?_) (fun hm => ?_)
      · walk_at "rds"
        exact no fun q => hn (fig_iff.mpr (List.all_eq_true.mp q.2.2 c (List.mem_of_getElem? hc)))
      · refine ⟨_, rfl, rfl, ?_⟩
        rw [List.take_add_one, hc, List.all_append, ha]
        have := fig_iff.mp hm
        simpa using this
    rintro σ' H' ⟨v, rfl, rfl, ha⟩
    rw [List.take_length] at ha
    rw [len_S] at c1
    rw [decide_eq_true ⟨e0, by omega, ha⟩] at k
    walk_at "rds"
    exact k

theorem atI_last {l : List Nat} {x : Nat} (h : l.getLast? = some x) : atI l (-1) = some x := by
  have h0 : l ≠ [] := fun e => by rw [e] at h; cases h
  have h1 : 0 < l.length := List.length_pos_iff.mpr h0
  unfold atI ixN
  rw [if_neg (by decide), if_pos (by omega), Option.bind_some]
  rw [show ((-1 : Int) + (l.length : Int)).toNat = l.length - 1 by omega, ← List.getLast?_eq_getElem?]
  exact h
/-- rest.ljust(3, "0") -/
theorem just3 {rs : List Nat} (h1 : rs ≠ []) (h2 : rs.length ≤ 3) : Txt.ljustF (SX.S rs) 3 48 = SX.S ((rs ++ [48, 48]).take 3) := by
  match rs, h1, h2 with
  | [x], _, _ => rfl
  | [x, y], _, _ => rfl
  | [x, y, z], _, _ => rfl
  | _ :: _ :: _ :: _ :: _, _, h => simp at h
/-- what no time's text is, refused -/
def NoTextE (K : PySem.W.Frag) (H : Hp) (E : XK) : Prop := ∀ (d : Addr) H', Same H H' → H' d = some (.xd [("row", .int 0)]) → E (.ref (cNT K)) (some d) H'
theorem noText_raised {K : PySem.W.Frag} {H : Hp} {E : XK} {w : V} (k : NoTextE K H E) : ∀ a, H a = none → spNoText K (.ref a :: ([w] ++ [.int 0])) (upd H a (exo a (cNT K) none))
    (fun v H2 => v = .non ∧ ∃ (d : Addr) (fs : List (Str × V)), H2 a = some (exo a (cNT K) (some d)) ∧ H2 d = some (exd d fs) ∧ H d = none ∧ E (.ref (cNT K)) (some d) (upd (del H2 a) d (.xd fs))) (fun _ _ _ => False) := by
  intro a ha
  refine ⟨a, w, 0, rfl, upd_same, fun d hd ne => ⟨rfl, d, _, upd_same, by rw [upd_ne ne, upd_same], ?_, ?_⟩⟩
  · rw [upd_ne ne] at hd
    exact hd
  · rw [upd_ne ne] at hd
    exact k d _ (raised_same ha hd) upd_same
def spTimeOf (K : PySem.W.Frag) : Sp := fun vs H Q E => ∃ v : V, vs = [v] ∧ ((IsA K H v "str" false ∧ NoTextE K H E) ∨ ∃ l : List Nat, v = .str (SX.S l) ∧ l.length ≤ 1000 ∧
  ((∃ n : Nat, n ≤ 1000000000 ∧ l = written n ∧ ∀ H', Same H H' → Q (.int n) H') ∨ ((∀ n : Nat, n ≤ 1000000000 → l ≠ written n) ∧ NoTextE K H E)))
theorem ok_time_of (T : Txt K mg) : ∃ fd, FnOk P w K mg base (L2N.CX P w) 3 (He.fAd K ("time_of", none)) fd ["text"] (spTimeOf K) ∧ FunD K "time_of" "time_of" (defArgs s_time_of) (defBody s_time_of) (defScope s_time_of) [] [] (He.fAd K ("time_of", none)) fd := by
  obtain ⟨fd, F⟩ := T.c.def_ 3 (d := d_time_of) rfl
  obtain ⟨fd_NoText_init, G_NoText_init, F_NoText_init⟩ := ok_NoText_init (P := P) (w := w) (base := base) T
  have kp_NoText_init := F_NoText_init.kp
  obtain ⟨d1_NoText_init, v1_NoText_init, b1_NoText_init⟩ : ∃ ds, Vals ([V.int 0].drop 0) ds ∧ Binds K fd_NoText_init ["self", "words", "row"] ds := F_NoText_init.binds1 2 0 (by decide) rfl (fun _ _ _ _ _ _ _ us its h1 h2 => match us, its, h1, h2 with | [_, _], [_], _, _ => ⟨_, rfl, rfl⟩)
  obtain ⟨fd_is_time, G_is_time, F_is_time⟩ := ok_is_time (P := P) (w := w) (base := base) T
  have kp_is_time := F_is_time.kp
  have b_is_time : Binds K fd_is_time ["thing"] [] := FunD.bindsN F_is_time (fun _ _ _ _ _ _ us hl => match us, hl with | [_], _ => rfl)
  obtain ⟨fd_are_figures, G_are_figures, F_are_figures⟩ := ok_are_figures (P := P) (w := w) (base := base) T
  have kp_are_figures := F_are_figures.kp
  have b_are_figures : Binds K fd_are_figures ["text", "most"] [] := FunD.bindsN F_are_figures (fun _ _ _ _ _ _ us hl => match us, hl with | [_, _], _ => rfl)
  refine ⟨fd, F.ok sc_time_of (by walk_at "g94len") (fun cdv A outer st H vs Q E hr h => ?_), F⟩
  · obtain ⟨v, rfl, ⟨⟨u, h1, h2⟩, k⟩ | ⟨l, rfl, hl, hk⟩⟩ := h
    · refine ⟨_, (pss_cons (ps_if (pt_not (pt_val (pe_callB call_isi (by rfl) (free_isinstance T) (by decide +kernel) (pa_cons (pv 0) (pa_cons (pe_bltn (v := .ty "str") (by rfl) (free_str T) (by decide +kernel) rfl) pa_nil))))) (pss_one (L2N.ps_raise rfl (L2N.takes_of rfl rfl rfl rfl) (L2N.pmk_oexN (oex_NoText T) (ini_NoText T) (inf_NoText T) G_NoText_init (hr.mono (by decide)) b1_NoText_init v1_NoText_init pass0 rfl (glo_NoText T) (pa_cons pe_str pa_nil)))) pss_nil)
        (pss_cons (ps_asg (pe_partition (pv 0) pe_str) (pg_tup rfl (pgs_cons (pg_name (i := 1) sc_time_of.nd rfl (Or.inl rfl)) (pgs_cons (pg_name (i := 2) sc_time_of.nd rfl (Or.inl rfl)) (pgs_cons (pg_name (i := 3) sc_time_of.nd rfl (Or.inl rfl)) pgs_nil)))))
        (C8.pss_cut (ps_if (PW.pt (pw_or (pt_not (pt_val (pe_call G_are_figures (hr.mono (by decide)) rfl (glo_are_figures T) kp_are_figures b_are_figures .nil pass0 (pa_cons (pv 1) (pa_cons pe_int pa_nil))))) (pw_or1 (PW.pt (pw_and (pt_cmpR op_ne (pv 1) pe_str (nomark _)) (pw_and1 (pt_cmpR op_eq (pe_ix ix_str (pv 1) pe_int (fun _ _ => rfl)) pe_str (nomark _)))))))) (pss_one (L2N.ps_raise rfl (L2N.takes_of rfl rfl rfl rfl) (L2N.pmk_oexN (oex_NoText T) (ini_NoText T) (inf_NoText T) G_NoText_init (hr.mono (by decide)) b1_NoText_init v1_NoText_init pass0 rfl (glo_NoText T) (pa_cons pe_str pa_nil)))) pss_nil)
        (pss_cons (ps_set (i := 4) sc_time_of.nd rfl (Or.inl rfl) (pe_op op_mul pe_int (pe_callTy call_int_str (by rfl) (free_int T) (by decide +kernel) (pa_cons (pv 1) pa_nil))))
        (C8.pss_cut (ps_if (pt_cmpR op_eq (pv 2) pe_str (nomark _)) (pss_cons (ps_if (PW.pt (pw_or (pt_not (pt_val (pe_call G_are_figures (hr.mono (by decide)) rfl (glo_are_figures T) kp_are_figures b_are_figures .nil pass0 (pa_cons (pv 3) (pa_cons pe_int pa_nil))))) (pw_or1 (pt_cmpR op_eq (pe_ix ix_str (pv 3) pe_negC (fun _ _ => rfl)) pe_str (nomark _))))) (pss_one (L2N.ps_raise rfl (L2N.takes_of rfl rfl rfl rfl) (L2N.pmk_oexN (oex_NoText T) (ini_NoText T) (inf_NoText T) G_NoText_init (hr.mono (by decide)) b1_NoText_init v1_NoText_init pass0 rfl (glo_NoText T) (pa_cons pe_str pa_nil)))) pss_nil)
        (pss_one (ps_aug (i := 4) sc_time_of.nd rfl (Or.inl rfl) (pe_callTy call_int_str (by rfl) (free_int T) (by decide +kernel) (pa_cons (pe_bm PySem.F.plainAttrs_str PySem.F.slot_str_ljust PySem.F.type_str_ljust mt_ljustF (pv 3) (pa_cons pe_int (pa_cons pe_str pa_nil))) pa_nil)) ip_add))) pss_nil)
        (pss_cons (ps_if (pt_not (pt_val (pe_call G_is_time (hr.mono (by decide)) rfl (glo_is_time T) kp_is_time b_is_time .nil pass0 (pa_cons (pv 4) pa_nil)))) (pss_one (L2N.ps_raise rfl (L2N.takes_of rfl rfl rfl rfl) (L2N.pmk_oexN (oex_NoText T) (ini_NoText T) (inf_NoText T) G_NoText_init (hr.mono (by decide)) b1_NoText_init v1_NoText_init pass0 rfl (glo_NoText T) (pa_cons pe_str pa_nil)))) pss_nil)
        (pss_one (ps_ret (pv 4))))))))), ?_⟩
      refine ⟨_, rfl, _, _, _, _, false, rfl, .ty _, h1, h2, ?_⟩
      walk_at "wks"
      exact ⟨Nat.le_of_ble_eq_true rfl, noText_raised k⟩
    · refine ⟨_, (pss_cons (ps_if (pt_not (pt_val (pe_callB call_isi (by rfl) (free_isinstance T) (by decide +kernel) (pa_cons (pv 0) (pa_cons (pe_bltn (v := .ty "str") (by rfl) (free_str T) (by decide +kernel) rfl) pa_nil))))) (pss_one (L2N.ps_raise rfl (L2N.takes_of rfl rfl rfl rfl) (L2N.pmk_oexN (oex_NoText T) (ini_NoText T) (inf_NoText T) G_NoText_init (hr.mono (by decide)) b1_NoText_init v1_NoText_init pass0 rfl (glo_NoText T) (pa_cons pe_str pa_nil)))) pss_nil)
        (pss_cons (ps_asg (pe_partition (pv 0) pe_str) (pg_tup rfl (pgs_cons (pg_name (i := 1) sc_time_of.nd rfl (Or.inl rfl)) (pgs_cons (pg_name (i := 2) sc_time_of.nd rfl (Or.inl rfl)) (pgs_cons (pg_name (i := 3) sc_time_of.nd rfl (Or.inl rfl)) pgs_nil)))))
        (C8.pss_cut (ps_if (PW.pt (pw_or (pt_not (pt_val (pe_call G_are_figures (hr.mono (by decide)) rfl (glo_are_figures T) kp_are_figures b_are_figures .nil pass0 (pa_cons (pv 1) (pa_cons pe_int pa_nil))))) (pw_or1 (PW.pt (pw_and (pt_cmpR op_ne (pv 1) pe_str (nomark _)) (pw_and1 (pt_cmpR op_eq (pe_ix ix_str (pv 1) pe_int (fun _ _ => rfl)) pe_str (nomark _)))))))) (pss_one (L2N.ps_raise rfl (L2N.takes_of rfl rfl rfl rfl) (L2N.pmk_oexN (oex_NoText T) (ini_NoText T) (inf_NoText T) G_NoText_init (hr.mono (by decide)) b1_NoText_init v1_NoText_init pass0 rfl (glo_NoText T) (pa_cons pe_str pa_nil)))) pss_nil)
        (pss_cons (ps_set (i := 4) sc_time_of.nd rfl (Or.inl rfl) (pe_op op_mul pe_int (pe_callTy call_int_str (by rfl) (free_int T) (by decide +kernel) (pa_cons (pv 1) pa_nil))))
        (C8.pss_cut (ps_if (pt_cmpR op_eq (pv 2) pe_str (nomark _)) (pss_cons (ps_if (PW.pt (pw_or (pt_not (pt_val (pe_call G_are_figures (hr.mono (by decide)) rfl (glo_are_figures T) kp_are_figures b_are_figures .nil pass0 (pa_cons (pv 3) (pa_cons pe_int pa_nil))))) (pw_or1 (pt_cmpR op_eq (pe_ix ix_str (pv 3) pe_negC (fun _ _ => rfl)) pe_str (nomark _))))) (pss_one (L2N.ps_raise rfl (L2N.takes_of rfl rfl rfl rfl) (L2N.pmk_oexN (oex_NoText T) (ini_NoText T) (inf_NoText T) G_NoText_init (hr.mono (by decide)) b1_NoText_init v1_NoText_init pass0 rfl (glo_NoText T) (pa_cons pe_str pa_nil)))) pss_nil)
        (pss_one (ps_aug (i := 4) sc_time_of.nd rfl (Or.inl rfl) (pe_callTy call_int_str (by rfl) (free_int T) (by decide +kernel) (pa_cons (pe_bm PySem.F.plainAttrs_str PySem.F.slot_str_ljust PySem.F.type_str_ljust mt_ljustF (pv 3) (pa_cons pe_int (pa_cons pe_str pa_nil))) pa_nil)) ip_add))) pss_nil)
        (pss_cons (ps_if (pt_not (pt_val (pe_call G_is_time (hr.mono (by decide)) rfl (glo_is_time T) kp_is_time b_is_time .nil pass0 (pa_cons (pv 4) pa_nil)))) (pss_one (L2N.ps_raise rfl (L2N.takes_of rfl rfl rfl rfl) (L2N.pmk_oexN (oex_NoText T) (ini_NoText T) (inf_NoText T) G_NoText_init (hr.mono (by decide)) b1_NoText_init v1_NoText_init pass0 rfl (glo_NoText T) (pa_cons pe_str pa_nil)))) pss_nil)
        (pss_one (ps_ret (pv 4))))))))), ?_⟩
      walk_at "wks"
      obtain ⟨a, pt, rs, hpart, hp⟩ := parts l
      refine ⟨⟨_, rfl⟩, _, _, rfl, rfl, by decide +kernel, by rw [len_S]; exact small_size (by omega), ?_⟩
      rw [hpart]
      intro p hq
      have s1 := (Same.refl H).new (o := HO.tup [V.str (SX.S a), V.str (SX.S pt), V.str (SX.S rs)]) hq
      have q1 : upd H p (HO.tup [V.str (SX.S a), V.str (SX.S pt), V.str (SX.S rs)]) p = some (HO.tup [V.str (SX.S a), V.str (SX.S pt), V.str (SX.S rs)]) := upd_same
      generalize upd H p (HO.tup [V.str (SX.S a), V.str (SX.S pt), V.str (SX.S rs)]) = H1 at s1 q1 ⊢
      refine ⟨p, _, rfl, .of q1, rfl, _, _, rfl, _, _, rfl, _, _, rfl, rfl, ?_⟩
      have bad : (∀ n : Nat, n ≤ 1000000000 → l ≠ written n) → NoTextE K H1 E := fun q => by
        rcases hk with ⟨n, hn, e, _⟩ | ⟨_, k⟩
        · exact absurd e (q n hn)
        · exact fun d H' s => k d H' (s1.trans s)
      have la : a.length ≤ l.length ∧ rs.length ≤ l.length := by
        rcases hp.h with ⟨_, rfl, rfl, _⟩ | ⟨_, e, _⟩
        · exact ⟨Nat.le_refl _, Nat.zero_le _⟩
        · rw [e, List.length_append, List.length_cons]
          omega
      refine ⟨fun σ' H' => σ' = [some (.str (SX.S l)), some (.str (SX.S a)), some (.str (SX.S pt)), some (.str (SX.S rs)), none] ∧ H' = H1 ∧ GoodS a ∧ a.length ≤ 7, ?_, ?_⟩
      · refine ⟨_, rfl, a, 7, rfl, by omega, ?_⟩
        by_cases hf : (a ≠ [] ∧ (a.length : Int) ≤ 7 ∧ a.all isFig = true)
        · rw [decide_eq_true hf]
          walk_at "wks"
          refine iteNSt (b := [48]) (by decide +kernel) (fun h0 => ?_) (fun h0 => ?_)
          · obtain ⟨c, r, rfl⟩ : ∃ c r, a = c :: r := match a, hf.1 with | c :: r, _ => ⟨c, r, rfl⟩
            refine ⟨_, rfl, _, 0, c, rfl, rfl, by rw [len_S]; exact small_size (by omega), atI_head _ _, rfl, _, rfl, ?_⟩
            refine iteS (a := [c]) (b := [48]) (by decide +kernel) (fun e1 => ?_) (fun e1 => ?_)
            · refine ⟨Nat.le_of_ble_eq_true rfl, noText_raised (bad fun n hn e => ?_)⟩
              obtain ⟨⟨_, _, g⟩, _⟩ := good_written hp hn e
              rcases g with g | g
              · exact h0 g
              · exact g (by rw [List.head?_cons, (List.cons.inj e1).1])
            · exact ⟨rfl, rfl, ⟨hf.1, hf.2.2, .inr fun q => e1 (by rw [Option.some.inj q])⟩, by omega⟩
          · exact ⟨rfl, rfl, ⟨hf.1, hf.2.2, .inl h0⟩, by omega⟩
        · rw [decide_eq_false hf]
          walk_at "wks"
          refine ⟨Nat.le_of_ble_eq_true rfl, noText_raised (bad fun n hn e => ?_)⟩
          obtain ⟨⟨g1, g2, _⟩, g3, _⟩ := good_written hp hn e
          exact hf ⟨g1, by omega, g2⟩
      rintro σ' H' ⟨rfl, rfl, ga, la7⟩
      have hint : intText? (SX.S a) = some (val a) := by
        rw [val_digits ga.2.1]
        exact SX.int_S ga.2.1 ga.1 (by omega)
      have hs7 : (SX.S a).length ≤ 640 := by rw [len_S]; omega
      walk_at "wks"
      refine ⟨fun σ' H2 => ∃ t : Int, σ' = [some (.str (SX.S l)), some (.str (SX.S a)), some (.str (SX.S pt)), some (.str (SX.S rs)), some (.int t)] ∧ H2 = H' ∧ ((pt = [] ∧ t = 1000 * val a) ∨ (pt = [46] ∧ GoodR rs ∧ t = 1000 * val a + val ((rs ++ [48, 48]).take 3))), ?_, ?_⟩
      · walk_at "wks"
        refine iteS (b := [46]) (by decide +kernel) (fun e0 => ?_) (fun e0 => ?_)
        · subst e0
          walk_at "wks"
          refine iteND (fun hr => ?_) (fun hr => ?_)
          · refine ⟨Nat.le_of_ble_eq_true rfl, noText_raised (bad fun n hn e => ?_)⟩
            rcases (good_written hp hn e).2.2 with ⟨q, _⟩ | ⟨_, g, _⟩
            · cases q
            · exact hr ⟨g.1, by have := g.2.1; omega, g.2.2.1⟩
          · obtain ⟨c, hc⟩ : ∃ c, rs.getLast? = some c := by
              cases e : rs.getLast? with
              | none => exact absurd (List.getLast?_eq_none_iff.mp e) hr.1
              | some c => exact ⟨c, rfl⟩
            have hrs : (SX.S rs).length ≤ sizeLine := by
              rw [len_S]
              exact small_size (by omega)
            refine ⟨_, rfl, _, -1, c, rfl, rfl, hrs, atI_last hc, rfl, _, rfl, ?_⟩
            refine iteS (a := [c]) (b := [48]) (by decide +kernel) (fun e1 => ?_) (fun e1 => ?_)
            · refine ⟨Nat.le_of_ble_eq_true rfl, noText_raised (bad fun n hn e => ?_)⟩
              rcases (good_written hp hn e).2.2 with ⟨q, _⟩ | ⟨_, g, _⟩
              · cases q
              · exact g.2.2.2 (by rw [hc, (List.cons.inj e1).1])
            · have gr : GoodR rs := ⟨hr.1, by omega, hr.2.2, fun q => e1 (by rw [hc] at q; rw [Option.some.inj q])⟩
              have hj : Txt.ljustF (SX.S rs) 3 ((Str.ofString "0").cps.getD 0 0) = SX.S ((rs ++ [48, 48]).take 3) := just3 gr.1 gr.2.1
              have ht3 : ((rs ++ [48, 48]).take 3).all isFig = true := by
                rw [List.all_eq_true]
                intro c hc
                rcases List.mem_append.mp (List.mem_of_mem_take hc) with hc | hc
                · exact List.all_eq_true.mp gr.2.2.1 c hc
                · simp only [List.mem_cons, List.not_mem_nil, or_false] at hc
                  rcases hc with rfl | rfl <;> decide
              have hl3 : ((rs ++ [48, 48]).take 3).length ≤ 3 := by
                rw [List.length_take]
                exact Nat.min_le_left _ _
              have hn3 : (rs ++ [48, 48]).take 3 ≠ [] := by
                cases rs with
                | nil => exact absurd rfl gr.1
                | cons x s => exact List.cons_ne_nil _ _
              have hint2 : intText? (SX.S ((rs ++ [48, 48]).take 3)) = some (val ((rs ++ [48, 48]).take 3)) := by
                rw [val_digits ht3]
                exact SX.int_S ht3 hn3 (by omega)
              have hs3 : (SX.S ((rs ++ [48, 48]).take 3)).length ≤ 640 := by
                rw [len_S]
                omega
              walk_at "wks"
              refine ⟨_, _, 3, rfl, rfl, by decide +kernel, by decide +kernel, ?_⟩
              rw [hj]
              walk_at "wks"
              exact .inr ⟨rfl, gr, rfl⟩
        · refine ⟨_, rfl, rfl, .inl ⟨?_, rfl⟩⟩
          rcases hp.h with ⟨q, _⟩ | ⟨q, _⟩
          · exact q
          · exact absurd q e0
      · rintro σ' H2 ⟨t, rfl, rfl, ht⟩
        walk_at "wks"
        refine ⟨_, _, rfl, .inl ⟨t, rfl, rfl⟩, ?_⟩
        by_cases h9 : 0 ≤ t ∧ t ≤ 1000000000
        · rw [decide_eq_true h9]
          walk_at "wks"
          rcases hk with ⟨n, hn, e, k⟩ | ⟨q, _⟩
          · have en : t = n := by
              rcases (good_written hp hn e).2.2 with ⟨q, e2⟩ | ⟨q, _, e2⟩
              · rcases ht with ⟨_, e3⟩ | ⟨q2, _⟩
                · omega
                · rw [q] at q2
                  cases q2
              · rcases ht with ⟨q2, _⟩ | ⟨_, _, e3⟩
                · rw [q] at q2
                  cases q2
                · omega
            rw [en]
            exact k _ s1
          · rcases ht with ⟨q2, e3⟩ | ⟨q2, gr, e3⟩
            · obtain ⟨n, e4, e5⟩ := (written_good hp ga).1 q2
              exact absurd e5 (q n (by omega))
            · obtain ⟨n, e4, e5⟩ := (written_good hp ga).2 q2 gr
              exact absurd e5 (q n (by omega))
        · rw [decide_eq_false h9]
          walk_at "wks"
          refine ⟨Nat.le_of_ble_eq_true rfl, noText_raised (bad fun n hn e => ?_)⟩
          rcases (good_written hp hn e).2.2 with ⟨q, e2⟩ | ⟨q, _, e2⟩
          · rcases ht with ⟨_, e3⟩ | ⟨q2, _⟩
            · omega
            · rw [q] at q2
              cases q2
          · rcases ht with ⟨q2, _⟩ | ⟨_, _, e3⟩
            · rw [q] at q2
              cases q2
            · omega
def letters : Str := "abcdefghijklmnopqrstuvwxyz"
def lampB (l : List Nat) : Bool := decide (1 ≤ l.length) && decide (l.length ≤ 8) && l.all fun c => decide (c ∈ letters.cps.toList)
def LampSays (K : PySem.W.Frag) (H : Hp) (v : V) (b : Bool) : Prop := (∃ l : List Nat, v = .str (SX.S l) ∧ l.length ≤ 1000 ∧ b = lampB l) ∨ (IsA K H v "str" false ∧ b = false)
def spLamp (K : PySem.W.Frag) : Sp := fun vs H Q _ => ∃ (v : V) (b : Bool), vs = [v] ∧ LampSays K H v b ∧ Q (.bl b) H
theorem take_all {P : Nat → Bool} {l : List Nat} {i : Nat} {c : Nat} (h : (l.take i).all P = true) (hc : l[i]? = some c) (hp : P c = true) : (l.take (i + 1)).all P = true := by
  rw [List.take_add_one, hc, List.all_append, h]
  simpa using hp
theorem ok_is_lamp (T : Txt K mg) : ∃ fd, FnOk P w K mg base CX0 1 (He.fAd K ("is_lamp", none)) fd ["thing"] (spLamp K) ∧ FunD K "is_lamp" "is_lamp" (defArgs s_is_lamp) (defBody s_is_lamp) (defScope s_is_lamp) [] [] (He.fAd K ("is_lamp", none)) fd := by
  obtain ⟨fd, F⟩ := T.c.def_ 4 (d := d_is_lamp) rfl
  obtain ⟨t_LETTERS, g_LETTERS⟩ := str_LETTERS T
  refine ⟨fd, F.ok sc_is_lamp (by walk_at "g94len") (fun cdv A outer st H vs Q E hr h => ?_), F⟩
  · obtain ⟨v, b, rfl, hs, k⟩ := h
    refine ⟨_, PSs.nox (C8.pss_cut (ps_if (PW.pt (pw_or (pt_not (pt_val (pe_callB call_isi (by rfl) (free_isinstance T) (by decide +kernel) (pa_cons (pv 0) (pa_cons (pe_bltn (v := .ty "str") (by rfl) (free_str T) (by decide +kernel) rfl) pa_nil))))) (pw_or1 (pt_not (pt_chain op_le op_le pe_int (pe_callB call_len_str (by rfl) (free_len T) (by decide +kernel) (pa_cons (pv 0) pa_nil)) pe_int))))) (pss_one (ps_ret pe_bl)) pss_nil)
        (pss_cons (ps_for PassesOwn.never rfl (pi_str (pv 0)) (pg_name (i := 1) sc_is_lamp.nd rfl (Or.inl rfl)) (pss_one (ps_if (pt_cmpR op_notIn_sign (pv 1) (pe_glob (v := .str "abcdefghijklmnopqrstuvwxyz") rfl g_LETTERS ⟨_, rfl⟩) rfl) (pss_one (ps_ret pe_bl)) pss_nil)))
        (pss_one (ps_ret pe_bl)))), ?_⟩
    rcases hs with ⟨l, rfl, hl, rfl⟩ | ⟨⟨u, h1, h2⟩, rfl⟩
    · have hsz : (SX.S l).length ≤ sizeLine := by
        rw [len_S]
        exact small_size (by omega)
      refine ⟨fun σ' H' => σ' = [some (.str (SX.S l)), none] ∧ H' = H ∧ 1 ≤ l.length ∧ l.length ≤ 8, ?_, ?_⟩
      · walk_at "rds"
        walk_at "ri" <;> intro c1
        · walk_at "rds"
          walk_at "ri" <;> intro c2
          · rw [len_S] at c1 c2
            unfold lampB at k
            rw [decide_eq_false (show ¬ l.length ≤ 8 by omega), Bool.and_false, Bool.false_and] at k
            walk_at "rds"
            exact k
          · rw [len_S] at c1 c2
            exact ⟨rfl, rfl, by omega, by omega⟩
        · rw [len_S] at c1
          unfold lampB at k
          rw [decide_eq_false (show ¬ 1 ≤ l.length by omega), Bool.false_and, Bool.false_and] at k
          walk_at "rds"
          exact k
      rintro σ' H' ⟨rfl, rfl, l1, l2⟩
      unfold lampB at k
      rw [decide_eq_true l1, decide_eq_true l2, Bool.true_and, Bool.true_and] at k
      refine ⟨_, rfl, _, rfl, for_text (l := l) (fun i σ' H2 => ∃ v, σ' = [some (.str (SX.S l)), v] ∧ H2 = H' ∧ (l.take i).all (fun c => decide (c ∈ letters.cps.toList)) = true) ⟨_, rfl, rfl, rfl⟩ ?_ ?_⟩
      · rintro i c σ' H2 hc ⟨v, rfl, rfl, ha⟩
        refine ⟨_, rfl, c, _, rfl, rfl, _, rfl, ?_⟩
        refine iteND (fun hn => ?_) (fun hm => ?_)
        · rw [show (l.all fun c => decide (c ∈ letters.cps.toList)) = false from by
            rw [List.all_eq_false]
            exact ⟨c, List.mem_of_getElem? hc, by rw [decide_eq_true_eq]; exact hn⟩] at k
          exact k
        · exact ⟨_, rfl, rfl, take_all ha hc (decide_eq_true hm)⟩
      rintro σ' H2 ⟨v, rfl, rfl, ha⟩
      rw [List.take_length] at ha
      rw [ha] at k
      exact k
    · refine ⟨fun _ _ => False, ?_, fun _ _ q => q.elim⟩
      refine ⟨_, rfl, _, _, _, _, false, rfl, .ty _, h1, h2, ?_⟩
      walk_at "rds"
      exact k
def sides : List Str := ["blue", "bright", "green", "pan", "red", "tilt"]
def sideB (z : Str) : Bool := inV (.str z) (sides.map V.str)
theorem ty_tup {K : PySem.W.Frag} {H : Hp} {a : Addr} {xs : List V} (h : SqT K H a xs) : TyX K H (.ref a) (.type "tuple") := by
  rcases h with (q | ⟨o, q⟩) | ⟨o, its, n, q1, q2, _⟩
  · exact .base (.tup q)
  · exact .fTuple q
  · exact .kTuple q1 q2
/-- what is_slot is asked of -/
def spSlot (K : PySem.W.Frag) : Sp := fun vs H Q _ => ∃ (p : Addr) (l : List Nat) (z : Str), vs = [.ref p] ∧ SqT K H p [.str (SX.S l), .str z] ∧ l.length ≤ 1000 ∧ Q (.bl (lampB l && sideB z)) H
theorem ok_is_slot (T : Txt K mg) : ∃ fd, FnOk P w K mg base CX0 2 (He.fAd K ("is_slot", none)) fd ["thing"] (spSlot K) ∧ FunD K "is_slot" "is_slot" (defArgs s_is_slot) (defBody s_is_slot) (defScope s_is_slot) [] [] (He.fAd K ("is_slot", none)) fd := by
  obtain ⟨fd, F⟩ := T.c.def_ 5 (d := d_is_slot) rfl
  obtain ⟨fd_is_lamp, G_is_lamp, F_is_lamp⟩ := ok_is_lamp (P := P) (w := w) (base := base) T
  have kp_is_lamp := F_is_lamp.kp
  have b_is_lamp : Binds K fd_is_lamp ["thing"] [] := FunD.bindsN F_is_lamp (fun _ _ _ _ _ _ us hl => match us, hl with | [_], _ => rfl)
  refine ⟨fd, F.ok sc_is_slot (by walk_at "g94len") (fun cdv A outer st H vs Q E hr h => ?_), F⟩
  · obtain ⟨p, l, z, rfl, hT, hl, k⟩ := h
    refine ⟨_, PSs.nox (pss_cons (ps_if (PW.pt (pw_or (pt_not (pt_val (pe_callB call_isi (by rfl) (free_isinstance T) (by decide +kernel) (pa_cons (pv 0) (pa_cons (pe_bltn (v := .ty "tuple") (by rfl) (free_tuple T) (by decide +kernel) rfl) pa_nil))))) (pw_or1 (pt_cmpR op_ne (pe_callB call_len_seq (by rfl) (free_len T) (by decide +kernel) (pa_cons (pv 0) pa_nil)) pe_int (nomark _))))) (pss_one (ps_ret pe_bl)) pss_nil)
        (pss_one (ps_ret (pe_and (pe_call G_is_lamp (hr.mono (by decide)) rfl (glo_is_lamp T) kp_is_lamp b_is_lamp .nil pass0 (pa_cons (pe_ix ix_tup (pv 0) pe_int (fun _ _ => rfl)) pa_nil)) (pe_one (pe_cmpR op_in_seq (pe_ix ix_tup (pv 0) pe_int (fun _ _ => rfl)) (pe_glob (v := .ref (He.ga K "SIDES")) rfl (glo_SIDES T) rfl) (by with_unfolding_all rfl))))))), ?_⟩
    refine ⟨_, rfl, _, _, _, _, true, rfl, .ty _, ty_tup hT, kit_ty (by decide +kernel), ?_⟩
    walk_at "rds"
    refine ⟨p, _, rfl, .inr hT, ?_⟩
    walk_at "rds"
    refine ⟨p, _, _, _, rfl, rfl, hT, rfl, _, _, rfl, .inl ⟨l, rfl, hl, rfl⟩, ?_⟩
    refine ⟨_, rfl, iteB (fun e => ?_) (fun e => ?_)⟩
    · rw [e, Bool.true_and] at k
      exact ⟨_, rfl, p, _, _, _, rfl, rfl, hT, rfl, _, _, rfl, .inr (tup_SIDES T _), rfl, by decide +kernel, k⟩
    · rw [e, Bool.false_and] at k
      exact k
theorem pow_ge {n : Nat} (h : 13 ≤ n) : (10000000000000 : Int) ≤ 10 ^ n := by
  obtain ⟨k, rfl⟩ : ∃ k, n = 13 + k := ⟨n - 13, by omega⟩
  rw [Int.pow_add]
  have hk : (1 : Int) ≤ 10 ^ k := by
    have : (0 : Int) < 10 ^ k := Int.pow_pos (by decide)
    omega
  have := Int.mul_le_mul_of_nonneg_left hk (show (0 : Int) ≤ 10 ^ 13 by decide)
  omega
def whole (l : List Nat) (most : Int) : Option Int :=
  if l = [] ∨ 13 < l.length then none else if l.all isFig = true then (if l.head? = some 48 ∧ l.length > 1 then none else if most < val l then none else some (val l)) else none
def optV : Option Int → V
  | none => .non
  | some n => .int n
theorem strV_eq {a b : List Nat} : decide (V.str (SX.S a) = V.str (SX.S b)) = decide (a = b) := by
  by_cases e : a = b
  · subst e
    rw [decide_eq_true rfl, decide_eq_true rfl]
  · rw [decide_eq_false e, decide_eq_false fun q => e (SX.S_inj (V.str.inj q))]
def spWhole2 : Sp := fun vs H Q _ => ∃ (l : List Nat) (m : Int), vs = [.str (SX.S l), .int m] ∧ l.length ≤ 1000 ∧ Q (optV (whole l m)) H
theorem ok_whole_of (T : Txt K mg) : ∃ fd, FnOk P w K mg base CX0 1 (He.fAd K ("whole_of", none)) fd ["word", "most"] spWhole2 ∧ FunD K "whole_of" "whole_of" (defArgs s_whole_of) (defBody s_whole_of) (defScope s_whole_of) [] [] (He.fAd K ("whole_of", none)) fd := by
  obtain ⟨fd, F⟩ := T.c.def_ 6 (d := d_whole_of) rfl
  obtain ⟨t_FIGURES_reader, g_FIGURES_reader⟩ := str_FIGURES_reader T
  refine ⟨fd, F.ok sc_whole_of (by walk_at "g94len") (fun cdv A outer st H vs Q E hr h => ?_), F⟩
  · obtain ⟨l, m, rfl, hlen, k⟩ := h
    refine ⟨_, PSs.nox (pss_cons (ps_if (PW.pt (pw_or (pt_cmpR op_eq (pv 0) pe_str (nomark _)) (pw_or1 (pt_cmpR op_gt (pe_callB call_len_str (by rfl) (free_len T) (by decide +kernel) (pa_cons (pv 0) pa_nil)) pe_int (nomark _))))) (pss_one (ps_ret pe_non)) pss_nil)
        (pss_cons (ps_for PassesOwn.never rfl (pi_str (pv 0)) (pg_name (i := 2) sc_whole_of.nd rfl (Or.inl rfl)) (pss_one (ps_if (pt_cmpR op_notIn_sign (pv 2) (pe_glob (v := .str "0123456789") rfl g_FIGURES_reader ⟨_, rfl⟩) rfl) (pss_one (ps_ret pe_non)) pss_nil)))
        (pss_cons (ps_if (PW.pt (pw_and (pt_cmpR op_eq (pe_ix ix_str (pv 0) pe_int (fun _ _ => rfl)) pe_str (nomark _)) (pw_and1 (pt_cmpR op_gt (pe_callB call_len_str (by rfl) (free_len T) (by decide +kernel) (pa_cons (pv 0) pa_nil)) pe_int (nomark _))))) (pss_one (ps_ret pe_non)) pss_nil)
        (pss_cons (ps_set (i := 3) sc_whole_of.nd rfl (Or.inl rfl) (pe_callTy call_int_str (by rfl) (free_int T) (by decide +kernel) (pa_cons (pv 0) pa_nil)))
        (pss_cons (ps_if (pt_cmpR op_gt (pv 3) (pv 1) (nomark _)) (pss_one (ps_ret pe_non)) pss_nil)
        (pss_one (ps_ret (pv 3)))))))), ?_⟩
    have hsz : (SX.S l).length ≤ sizeLine := by
      rw [len_S]
      exact small_size (by omega)
    walk_at "rds"
    refine iteS (b := []) (by decide +kernel) (fun e0 => ?_) (fun e0 => ?_)
    · have q : whole l m = none := by
        unfold whole
        rw [if_pos (Or.inl e0)]
      rw [q] at k
      walk_at "rds"
      exact k
    walk_at "rds"
    walk_at "ri" <;> intro c1
    · have q : whole l m = none := by
        unfold whole
        rw [if_pos (Or.inr (by rw [len_S] at c1; omega))]
      rw [q] at k
      walk_at "rds"
      exact k
    have c1' : ¬ 13 < l.length := by
      rw [len_S] at c1
      omega
    refine ⟨_, rfl, _, rfl, for_text (l := l) (fun i σ' H' => ∃ v, σ' = [some (.str (SX.S l)), some (.int m), v, none] ∧ H' = H ∧ (l.take i).all isFig = true) ⟨_, rfl, rfl, rfl⟩ ?_ ?_⟩
    · rintro i c σ' H' hc ⟨v, rfl, rfl, ha⟩
      refine ⟨_, rfl, c, _, rfl, rfl, _, rfl, ?_⟩
      rw [figs_eq]
      refine iteND (fun hn => ?_) (fun hm => ?_)
      · have q : whole l m = none := by
          unfold whole
          rw [if_neg (fun e => e.elim e0 c1'), if_neg]
          intro hall
          exact hn (fig_iff.mpr (List.all_eq_true.mp hall c (List.mem_of_getElem? hc)))
        rw [q] at k
        exact k
      · refine ⟨_, rfl, rfl, ?_⟩
        rw [List.take_add_one, hc, List.all_append, ha]
        have := fig_iff.mp hm
        simpa using this
    rintro σ' H' ⟨v, rfl, rfl, ha⟩
    rw [List.take_length] at ha
    obtain ⟨c, r, rfl⟩ : ∃ c r, l = c :: r := match l, e0 with | c :: r, _ => ⟨c, r, rfl⟩
    have W0 : whole (c :: r) m = if (c :: r).head? = some 48 ∧ (c :: r).length > 1 then none else if m < val (c :: r) then none else some (val (c :: r)) := by
      unfold whole
      rw [if_neg (fun e => e.elim e0 c1'), if_pos ha]
    rw [W0] at k
    have hint : intText? (SX.S (c :: r)) = some (val (c :: r)) := by
      rw [val_digits ha]
      exact SX.int_S ha e0 (by omega)
    refine ⟨_, rfl, _, 0, c, rfl, rfl, hsz, atI_head _ _, rfl, _, rfl, ?_⟩
    refine iteS (a := [c]) (b := [48]) (by decide +kernel) (fun e1 => ?_) (fun e1 => ?_)
    · walk_at "rds"
      walk_at "ri" <;> intro c2
      · rw [if_pos ⟨by rw [List.head?_cons, (List.cons.inj e1).1], by rw [len_S] at c2; omega⟩] at k
        walk_at "rds"
        exact k
      · rw [if_neg (fun e => c2 (by rw [len_S]; have := e.2; omega))] at k
        walk_at "rds"
        refine ⟨_, _, rfl, hint, ?_, ?_⟩
        · rw [len_S]
          omega
        walk_at "rds"
        walk_at "ri" <;> intro c3
        · rw [if_pos c3] at k
          walk_at "rds"
          exact k
        · rw [if_neg c3] at k
          walk_at "rds"
          exact k
    · rw [if_neg (fun e => e1 (by rw [List.head?_cons] at e; rw [Option.some.inj e.1]))] at k
      walk_at "rds"
      refine ⟨_, _, rfl, hint, ?_, ?_⟩
      · rw [len_S]
        omega
      walk_at "rds"
      walk_at "ri" <;> intro c3
      · rw [if_pos c3] at k
        walk_at "rds"
        exact k
      · rw [if_neg c3] at k
        walk_at "rds"
        exact k
/-! ### errors of a row -/
def NoRowE (K : PySem.W.Frag) (H : Hp) (E : XK) : Prop := ∀ H', Same H H' → E (.ref (He.ga K "NoRow")) none H'
theorem NoRowE.on {K : PySem.W.Frag} {H H' : Hp} {E : XK} (h : NoRowE K H E) (s : Same H H') : NoRowE K H' E := fun H2 s2 => h H2 (s.trans s2)
def spTicksBy (K : PySem.W.Frag) : Sp := fun vs H Q E => ∃ l : List Nat, vs = [.str (SX.S l)] ∧ l.length ≤ 1000 ∧
  ((∃ n : Nat, n ≤ 1000000000 ∧ l = written n ∧ ∀ H', Same H H' → Q (.int n) H') ∨ ((∀ n : Nat, n ≤ 1000000000 → l ≠ written n) ∧ NoRowE K H E))
theorem ok_ticks_by (T : Txt K mg) : ∃ fd, FnOk P w K mg base (L2.CX P w) 4 (He.fAd K ("ticks_by", none)) fd ["word"] (spTicksBy K) ∧ FunD K "ticks_by" "ticks_by" (defArgs s_ticks_by) (defBody s_ticks_by) (defScope s_ticks_by) [] [] (He.fAd K ("ticks_by", none)) fd := by
  obtain ⟨fd, F⟩ := T.c.def_ 7 (d := d_ticks_by) rfl
  obtain ⟨fd_time_of, G_time_of, F_time_of⟩ := ok_time_of (P := P) (w := w) (base := base) T
  have kp_time_of := F_time_of.kp
  have b_time_of : Binds K fd_time_of ["text"] [] := FunD.bindsN F_time_of (fun _ _ _ _ _ _ us hl => match us, hl with | [_], _ => rfl)
  refine ⟨fd, F.ok sc_ticks_by (by walk_at "g94len") (fun cdv A outer st H vs Q E hr h => ?_), F⟩
  · obtain ⟨l, rfl, hl, hk⟩ := h
    refine ⟨_, (pss_one (L2H.ps_try_else rfl rfl ⟨rfl, by decide, .inl (glo_NoText T)⟩ (fun hd => L2H.passesAt_of rfl hd) (takes_of rfl rfl rfl rfl) (fun W pn xe tk _ => (pss_one (ps_set (i := 1) sc_ticks_by.nd rfl (Or.inl rfl) (pe_callS G_time_of (hr.mono (by decide)) rfl (glo_time_of T) kp_time_of b_time_of (fun σ => L2N.passAt tk σ) (pa_cons (pv 0) pa_nil))))) (fun a oe cls d pn tk2 hot => (pss_one (L2H.ps_raiseHN hot tk2 (L2H.pmk5_own PySem.F.excBase_ValueError (exc_NoRow T).1 (glo_NoRow T) (exc_NoRow T).2.1 (raises_own (exc_NoRow T).2.2.1 (exc_NoRow T).2.2.2) rfl)))) (pss_one (ps_ret (pv 1))))), ?_⟩
    walk_at "wks"
    rcases hk with ⟨n, hn, e, k⟩ | ⟨hn, k⟩
    · refine .inr ⟨l, rfl, hl, .inl ⟨n, hn, e, fun H' s => ?_⟩⟩
      walk_at "wks"
      exact k _ s
    · refine .inr ⟨l, rfl, hl, .inr ⟨hn, fun d H' s hx => ?_⟩⟩
      refine ⟨exm_NoText_NoText T, fun a ha => ?_⟩
      exact k _ s
def spNumberBy (K : PySem.W.Frag) : Sp := fun vs H Q E => ∃ (l : List Nat) (a b : Int), vs = [.str (SX.S l), .int a, .int b] ∧ l.length ≤ 1000 ∧
  ((∃ n, whole l b = some n ∧ a ≤ n ∧ Q (.int n) H) ∨ ((∀ n, whole l b = some n → n < a) ∧ NoRowE K H E))
theorem ok_number_by (T : Txt K mg) : ∃ fd, FnOk P w K mg base (L2.CX P w) 4 (He.fAd K ("number_by", none)) fd ["word", "least", "most"] (spNumberBy K) ∧ FunD K "number_by" "number_by" (defArgs s_number_by) (defBody s_number_by) (defScope s_number_by) [] [] (He.fAd K ("number_by", none)) fd := by
  obtain ⟨fd, F⟩ := T.c.def_ 8 (d := d_number_by) rfl
  obtain ⟨fd_whole_of, G_whole_of, F_whole_of⟩ := ok_whole_of (P := P) (w := w) (base := base) T
  have kp_whole_of := F_whole_of.kp
  have b_whole_of : Binds K fd_whole_of ["word", "most"] [] := FunD.bindsN F_whole_of (fun _ _ _ _ _ _ us hl => match us, hl with | [_, _], _ => rfl)
  refine ⟨fd, F.ok sc_number_by (by walk_at "g94len") (fun cdv A outer st H vs Q E hr h => ?_), F⟩
  · obtain ⟨l, a, b, rfl, hl, hk⟩ := h
    refine ⟨_, (pss_cons (ps_set (i := 3) sc_number_by.nd rfl (Or.inl rfl) (pe_call G_whole_of (hr.mono (by decide)) rfl (glo_whole_of T) kp_whole_of b_whole_of .nil pass0 (pa_cons (pv 0) (pa_cons (pv 2) pa_nil))))
        (pss_cons (ps_if (PW.pt (pw_or (pt_cmpR op_isN (pv 3) pe_non (nomark _)) (pw_or1 (pt_cmpR op_lt (pv 3) (pv 1) (nomark _))))) (pss_one (ps_raise rfl (takes_of rfl rfl rfl rfl) (pmk_own PySem.F.excBase_ValueError (exc_NoRow T).1 (glo_NoRow T) (exc_NoRow T).2.1 (raises_own (exc_NoRow T).2.2.1 (exc_NoRow T).2.2.2) rfl))) pss_nil)
        (pss_one (ps_ret (pv 3))))), ?_⟩
    walk_at "wks"
    rcases hk with ⟨n, hn, ha, k⟩ | ⟨hn, k⟩
    · rw [hn]
      refine iteD (fun q => ?_) (fun _ => ?_)
      · cases q
      walk_at "wks"
      walk_at "ri" <;> intro c2
      · omega
      walk_at "wks"
      exact k
    · cases e : whole l b with
      | none =>
        walk_at "wks"
        exact k _ (Same.refl _)
      | some n =>
        have := hn n e
        refine iteD (fun q => ?_) (fun _ => ?_)
        · cases q
        walk_at "wks"
        walk_at "ri" <;> intro c2
        · exact k _ (Same.refl _)
        · omega
inductive Th where
  | num (n : Int) | txt (l : List Nat)
def Th.v : Th → V
  | .num n => .int n
  | .txt l => .str (SX.S l)
def Tk (kind : Str) (l : List Nat) (t : Th) : Prop :=
  (kind = "time" ∧ ∃ n : Nat, n ≤ 1000000000 ∧ l = written n ∧ t = .num n) ∨ (kind = "number" ∧ ∃ n, whole l 1000000000 = some n ∧ 1 ≤ n ∧ t = .num n) ∨ (kind = "worth" ∧ ∃ n, whole l 1000000000 = some n ∧ 0 ≤ n ∧ t = .num n) ∨
  (kind = "level" ∧ ∃ n, whole l 1000 = some n ∧ 0 ≤ n ∧ t = .num n) ∨ (kind = "side" ∧ sideB (SX.S l) = true ∧ t = .txt l) ∨ (kind = "name" ∧ lampB l = true ∧ t = .txt l)
def kindsAll : List Str := ["time", "number", "worth", "level", "side", "name"]
def spThingBy (K : PySem.W.Frag) : Sp := fun vs H Q E => ∃ (kind : Str) (l : List Nat), vs = [.str kind, .str (SX.S l)] ∧ kind ∈ kindsAll ∧ l.length ≤ 1000 ∧
  ((∃ t, Tk kind l t ∧ ∀ H', Same H H' → Q t.v H') ∨ ((∀ t, ¬ Tk kind l t) ∧ NoRowE K H E))
theorem tk_time {l : List Nat} {t : Th} : Tk "time" l t ↔ (∃ n : Nat, n ≤ 1000000000 ∧ l = written n ∧ t = .num n) := by
  refine ⟨fun h => ?_, fun h => .inl ⟨rfl, h⟩⟩
  rcases h with ⟨e, h⟩ | ⟨e, h⟩ | ⟨e, h⟩ | ⟨e, h⟩ | ⟨e, h⟩ | ⟨e, h⟩ <;> first | exact h | exact absurd e (by decide +kernel)
theorem tk_number {l : List Nat} {t : Th} : Tk "number" l t ↔ (∃ n, whole l 1000000000 = some n ∧ 1 ≤ n ∧ t = .num n) := by
  refine ⟨fun h => ?_, fun h => .inr (.inl ⟨rfl, h⟩)⟩
  rcases h with ⟨e, h⟩ | ⟨e, h⟩ | ⟨e, h⟩ | ⟨e, h⟩ | ⟨e, h⟩ | ⟨e, h⟩ <;> first | exact h | exact absurd e (by decide +kernel)
theorem tk_worth {l : List Nat} {t : Th} : Tk "worth" l t ↔ (∃ n, whole l 1000000000 = some n ∧ 0 ≤ n ∧ t = .num n) := by
  refine ⟨fun h => ?_, fun h => .inr (.inr (.inl ⟨rfl, h⟩))⟩
  rcases h with ⟨e, h⟩ | ⟨e, h⟩ | ⟨e, h⟩ | ⟨e, h⟩ | ⟨e, h⟩ | ⟨e, h⟩ <;> first | exact h | exact absurd e (by decide +kernel)
theorem tk_level {l : List Nat} {t : Th} : Tk "level" l t ↔ (∃ n, whole l 1000 = some n ∧ 0 ≤ n ∧ t = .num n) := by
  refine ⟨fun h => ?_, fun h => .inr (.inr (.inr (.inl ⟨rfl, h⟩)))⟩
  rcases h with ⟨e, h⟩ | ⟨e, h⟩ | ⟨e, h⟩ | ⟨e, h⟩ | ⟨e, h⟩ | ⟨e, h⟩ <;> first | exact h | exact absurd e (by decide +kernel)
theorem tk_side {l : List Nat} {t : Th} : Tk "side" l t ↔ (sideB (SX.S l) = true ∧ t = .txt l) := by
  refine ⟨fun h => ?_, fun h => .inr (.inr (.inr (.inr (.inl ⟨rfl, h⟩))))⟩
  rcases h with ⟨e, h⟩ | ⟨e, h⟩ | ⟨e, h⟩ | ⟨e, h⟩ | ⟨e, h⟩ | ⟨e, h⟩ <;> first | exact h | exact absurd e (by decide +kernel)
theorem tk_name {l : List Nat} {t : Th} : Tk "name" l t ↔ (lampB l = true ∧ t = .txt l) := by
  refine ⟨fun h => ?_, fun h => .inr (.inr (.inr (.inr (.inr (⟨rfl, h⟩)))))⟩
  rcases h with ⟨e, h⟩ | ⟨e, h⟩ | ⟨e, h⟩ | ⟨e, h⟩ | ⟨e, h⟩ | ⟨e, h⟩ <;> first | exact h | exact absurd e (by decide +kernel)
theorem ok_thing_by (T : Txt K mg) : ∃ fd, FnOk P w K mg base (L2.CX P w) 5 (He.fAd K ("thing_by", none)) fd ["kind", "word"] (spThingBy K) ∧ FunD K "thing_by" "thing_by" (defArgs s_thing_by) (defBody s_thing_by) (defScope s_thing_by) [] [] (He.fAd K ("thing_by", none)) fd := by
  obtain ⟨fd, F⟩ := T.c.def_ 9 (d := d_thing_by) rfl
  obtain ⟨fd_ticks_by, G_ticks_by, F_ticks_by⟩ := ok_ticks_by (P := P) (w := w) (base := base) T
  have kp_ticks_by := F_ticks_by.kp
  have b_ticks_by : Binds K fd_ticks_by ["word"] [] := FunD.bindsN F_ticks_by (fun _ _ _ _ _ _ us hl => match us, hl with | [_], _ => rfl)
  obtain ⟨fd_number_by, G_number_by, F_number_by⟩ := ok_number_by (P := P) (w := w) (base := base) T
  have kp_number_by := F_number_by.kp
  have b_number_by : Binds K fd_number_by ["word", "least", "most"] [] := FunD.bindsN F_number_by (fun _ _ _ _ _ _ us hl => match us, hl with | [_, _, _], _ => rfl)
  obtain ⟨fd_is_slot, G_is_slot, F_is_slot⟩ := ok_is_slot (P := P) (w := w) (base := base) T
  have kp_is_slot := F_is_slot.kp
  have b_is_slot : Binds K fd_is_slot ["thing"] [] := FunD.bindsN F_is_slot (fun _ _ _ _ _ _ us hl => match us, hl with | [_], _ => rfl)
  obtain ⟨fd_is_lamp, G_is_lamp, F_is_lamp⟩ := ok_is_lamp (P := P) (w := w) (base := base) T
  have kp_is_lamp := F_is_lamp.kp
  have b_is_lamp : Binds K fd_is_lamp ["thing"] [] := FunD.bindsN F_is_lamp (fun _ _ _ _ _ _ us hl => match us, hl with | [_], _ => rfl)
  obtain ⟨t_MOST_rows, g_MOST_rows⟩ := int_MOST_rows T
  refine ⟨fd, F.ok sc_thing_by (by walk_at "g94len") (fun cdv A outer st H vs Q E hr h => ?_), F⟩
  · obtain ⟨kind, l, rfl, hm, hl, hk⟩ := h
    refine ⟨_, (pss_cons (ps_if (pt_cmpR op_eq (pv 0) pe_str (nomark _)) (pss_one (ps_ret (pe_call G_ticks_by (hr.mono (by decide)) rfl (glo_ticks_by T) kp_ticks_by b_ticks_by .nil (passes_call (takes_of rfl rfl rfl rfl) (fun _ _ _ _ h => h)) (pa_cons (pv 1) pa_nil)))) pss_nil)
        (pss_cons (ps_if (pt_cmpR op_eq (pv 0) pe_str (nomark _)) (pss_one (ps_ret (pe_call G_number_by (hr.mono (by decide)) rfl (glo_number_by T) kp_number_by b_number_by .nil (passes_call (takes_of rfl rfl rfl rfl) (fun _ _ _ _ h => h)) (pa_cons (pv 1) (pa_cons pe_int (pa_cons (pe_glob (v := .int 1000000000) rfl g_MOST_rows ⟨_, rfl⟩) pa_nil)))))) pss_nil)
        (pss_cons (ps_if (pt_cmpR op_eq (pv 0) pe_str (nomark _)) (pss_one (ps_ret (pe_call G_number_by (hr.mono (by decide)) rfl (glo_number_by T) kp_number_by b_number_by .nil (passes_call (takes_of rfl rfl rfl rfl) (fun _ _ _ _ h => h)) (pa_cons (pv 1) (pa_cons pe_int (pa_cons (pe_glob (v := .int 1000000000) rfl g_MOST_rows ⟨_, rfl⟩) pa_nil)))))) pss_nil)
        (pss_cons (ps_if (pt_cmpR op_eq (pv 0) pe_str (nomark _)) (pss_one (ps_ret (pe_call G_number_by (hr.mono (by decide)) rfl (glo_number_by T) kp_number_by b_number_by .nil (passes_call (takes_of rfl rfl rfl rfl) (fun _ _ _ _ h => h)) (pa_cons (pv 1) (pa_cons pe_int (pa_cons pe_int pa_nil)))))) pss_nil)
        (pss_cons (ps_if (PW.pt (pw_or (PW.pt (pw_and (pt_cmpR op_eq (pv 0) pe_str (nomark _)) (pw_and1 (pt_not (pt_val (pe_call G_is_slot (hr.mono (by decide)) rfl (glo_is_slot T) kp_is_slot b_is_slot .nil pass0 (pa_cons (pe_tupK (pa_cons pe_str (pa_cons (pv 1) pa_nil))) pa_nil))))))) (pw_or1 (PW.pt (pw_and (pt_cmpR op_eq (pv 0) pe_str (nomark _)) (pw_and1 (pt_not (pt_val (pe_call G_is_lamp (hr.mono (by decide)) rfl (glo_is_lamp T) kp_is_lamp b_is_lamp .nil pass0 (pa_cons (pv 1) pa_nil)))))))))) (pss_one (ps_raise rfl (takes_of rfl rfl rfl rfl) (pmk_own PySem.F.excBase_ValueError (exc_NoRow T).1 (glo_NoRow T) (exc_NoRow T).2.1 (raises_own (exc_NoRow T).2.2.1 (exc_NoRow T).2.2.2) rfl))) pss_nil)
        (pss_one (ps_ret (pv 1)))))))), ?_⟩
    unfold kindsAll at hm
    simp only [List.mem_cons, List.not_mem_nil, or_false] at hm
    rcases hm with rfl | rfl | rfl | rfl | rfl | rfl
    · walk_at "wks"
      rcases hk with ⟨t, ht, k⟩ | ⟨hn, k⟩
      · obtain ⟨n, h1, h2, rfl⟩ := tk_time.mp ht
        exact .inl ⟨n, h1, h2, fun H' s => k _ s⟩
      · exact .inr ⟨fun n h1 h2 => hn _ (tk_time.mpr ⟨n, h1, h2, rfl⟩), k⟩
    · walk_at "wks"
      rcases hk with ⟨t, ht, k⟩ | ⟨hn, k⟩
      · obtain ⟨n, h1, h2, rfl⟩ := tk_number.mp ht
        exact .inl ⟨n, h1, h2, k _ (Same.refl _)⟩
      · exact .inr ⟨fun n e => Int.not_le.mp fun h => hn _ (tk_number.mpr ⟨n, e, h, rfl⟩), k⟩
    · walk_at "wks"
      rcases hk with ⟨t, ht, k⟩ | ⟨hn, k⟩
      · obtain ⟨n, h1, h2, rfl⟩ := tk_worth.mp ht
        exact .inl ⟨n, h1, h2, k _ (Same.refl _)⟩
      · exact .inr ⟨fun n e => Int.not_le.mp fun h => hn _ (tk_worth.mpr ⟨n, e, h, rfl⟩), k⟩
    · walk_at "wks"
      rcases hk with ⟨t, ht, k⟩ | ⟨hn, k⟩
      · obtain ⟨n, h1, h2, rfl⟩ := tk_level.mp ht
        exact .inl ⟨n, h1, h2, k _ (Same.refl _)⟩
      · exact .inr ⟨fun n e => Int.not_le.mp fun h => hn _ (tk_level.mpr ⟨n, e, h, rfl⟩), k⟩
    · walk_at "wks"
      rename_i p H1 f1 s1 h1
      rw [show (("a" : Str)) = SX.S [97] by decide +kernel] at h1
      refine ⟨p, [97], SX.S l, rfl, .inl (.of h1), by decide, ?_⟩
      rw [show lampB [97] = true by decide +kernel, Bool.true_and]
      cases e : sideB (SX.S l) with
      | true =>
        walk_at "wks"
        rcases hk with ⟨t, ht, k⟩ | ⟨hn, k⟩
        · obtain ⟨_, rfl⟩ := tk_side.mp ht
          exact k _ s1
        · exact absurd (tk_side.mpr ⟨e, rfl⟩) (hn _)
      | false =>
        walk_at "wks"
        rcases hk with ⟨t, ht, k⟩ | ⟨hn, k⟩
        · rw [(tk_side.mp ht).1] at e
          cases e
        · exact k _ s1
    · walk_at "wks"
      refine ⟨_, _, rfl, .inl ⟨l, rfl, hl, rfl⟩, ?_⟩
      cases e : lampB l with
      | true =>
        walk_at "wks"
        rcases hk with ⟨t, ht, k⟩ | ⟨hn, k⟩
        · obtain ⟨_, rfl⟩ := tk_name.mp ht
          exact k _ (Same.refl _)
        · exact absurd (tk_name.mpr ⟨e, rfl⟩) (hn _)
      | false =>
        walk_at "wks"
        rcases hk with ⟨t, ht, k⟩ | ⟨hn, k⟩
        · rw [(tk_name.mp ht).1] at e
          cases e
        · exact k _ (Same.refl _)
/-! ### the things of a row -/
def form (w : Str) : List Str := (formsTab.lookup w).getD []
def followS : List Nat := [102, 111, 108, 108, 111, 119]
/-- a put with a follow behind -/
def hasFollow (w : Str) (rest : List (List Nat)) : Bool := decide (w = "put") && (decide (rest.length = 6) && decide (rest[4]? = some followS))
def kindsOf (w : Str) (rest : List (List Nat)) : List Str := if hasFollow w rest = true then form w ++ [("time" : Str)] else form w
def wordsOf (w : Str) (rest : List (List Nat)) : List (List Nat) := if hasFollow w rest = true then rest.eraseIdx 4 else rest
theorem follow_of {w : Str} {rest : List (List Nat)} (h : hasFollow w rest = true) : w = "put" ∧ rest.length = 6 ∧ rest[4]? = some followS := by
  unfold hasFollow at h
  rw [Bool.and_eq_true, Bool.and_eq_true, decide_eq_true_eq, decide_eq_true_eq, decide_eq_true_eq] at h
  exact h
inductive Tks : List Str → List (List Nat) → List Th → Prop where
  | nil : Tks [] [] []
  | cons {k : Str} {l : List Nat} {t : Th} {ks : List Str} {ls : List (List Nat)} {ts : List Th} (h : Tk k l t) (r : Tks ks ls ts) : Tks (k :: ks) (l :: ls) (t :: ts)
theorem Tks.len {ks : List Str} {ls : List (List Nat)} {ts : List Th} (h : Tks ks ls ts) : ks.length = ls.length ∧ ts.length = ks.length := by
  induction h with
  | nil => exact ⟨rfl, rfl⟩
  | cons _ _ ih => exact ⟨congrArg (· + 1) ih.1, congrArg (· + 1) ih.2⟩
theorem Tks.get {ks : List Str} {ls : List (List Nat)} {ts : List Th} (h : Tks ks ls ts) : ∀ {i : Nat} {k : Str} {l : List Nat}, ks[i]? = some k → ls[i]? = some l → ∃ t, ts[i]? = some t ∧ Tk k l t := by
  induction h with
  | nil => intro i k l e; cases e
  | @cons k0 l0 t0 ks ls ts h r ih =>
    intro i k l e1 e2
    cases i with
    | zero =>
      cases e1
      cases e2
      exact ⟨_, rfl, h⟩
    | succ i => exact ih (i := i) e1 e2
theorem Tks.app {ks : List Str} {ls : List (List Nat)} {ts : List Th} (h : Tks ks ls ts) {k : Str} {l : List Nat} {t : Th} (q : Tk k l t) : Tks (ks ++ [k]) (ls ++ [l]) (ts ++ [t]) := by
  induction h with
  | nil => exact .cons q .nil
  | cons h _ ih => exact .cons h ih
/-- what things_of promises -/
theorem form_len : ∀ w ∈ formsKeys, (form w).length ≤ 4 := by decide +kernel
theorem erase_map {α β : Type} (f : α → β) : ∀ (l : List α) (i : Nat), (l.map f).eraseIdx i = (l.eraseIdx i).map f
  | [], i => rfl
  | _ :: _, 0 => rfl
  | a :: l, i + 1 => congrArg (f a :: ·) (erase_map f l i)
theorem form_mem : ∀ w ∈ formsKeys, (w, form w) ∈ formsTab := by decide +kernel
theorem form_kinds : ∀ w ∈ formsKeys, ∀ k ∈ form w, k ∈ kindsAll := by decide +kernel
theorem kinds_of {w : Str} {rest : List (List Nat)} (hw : w ∈ formsKeys) : ∀ k ∈ kindsOf w rest, k ∈ kindsAll := by
  intro k hk
  unfold kindsOf at hk
  split at hk
  · rcases List.mem_append.mp hk with hk | hk
    · exact form_kinds w hw k hk
    · rw [List.mem_singleton.mp hk]
      decide +kernel
  · exact form_kinds w hw k hk
def spThingsOf (K : PySem.W.Frag) : Sp := fun vs H Q E => ∃ (w : Str) (p : Addr) (rest : List (List Nat)), vs = [.str w, .ref p] ∧ w ∈ formsKeys ∧ SqL K H p (rest.map fun l => V.str (SX.S l)) ∧ rest.length ≤ 1000 ∧ (∀ l ∈ rest, l.length ≤ 1000) ∧
  ((∃ ts, Tks (kindsOf w rest) (wordsOf w rest) ts ∧ ∀ (q : Addr) H', Same H H' → Fr H q → H' q = some (.lst (ts.map Th.v)) → Q (.ref q) H') ∨ ((∀ ts, ¬ Tks (kindsOf w rest) (wordsOf w rest) ts) ∧ NoRowE K H E))
theorem ok_things_of (T : Txt K mg) (TB : L2.FormsD K w (He.ga K "FORMS") formsKeys) : ∃ fd, FnOk P w K mg base (L2.CX P w) 6 (He.fAd K ("things_of", none)) fd ["word", "rest"] (spThingsOf K) ∧ FunD K "things_of" "things_of" (defArgs s_things_of) (defBody s_things_of) (defScope s_things_of) [] [] (He.fAd K ("things_of", none)) fd := by
  obtain ⟨fd, F⟩ := T.c.def_ 10 (d := d_things_of) rfl
  obtain ⟨fd_thing_by, G_thing_by, F_thing_by⟩ := ok_thing_by (P := P) (w := w) (base := base) T
  have kp_thing_by := F_thing_by.kp
  have b_thing_by : Binds K fd_thing_by ["kind", "word"] [] := FunD.bindsN F_thing_by (fun _ _ _ _ _ _ us hl => match us, hl with | [_, _], _ => rfl)
  refine ⟨fd, F.ok sc_things_of (by walk_at "g94len") (fun cdv A outer st H vs Q E hr h => ?_), F⟩
  · obtain ⟨w, p, rest, rfl, hw, hp, hlen, hl, hk⟩ := h
    refine ⟨_, (pss_cons (ps_set (i := 2) sc_things_of.nd rfl (Or.inl rfl) (pe_callTy call_listK (by rfl) (free_list T) (by decide +kernel) (pa_cons (pe_ix (ix_forms TB (forms_FORMS T)) (pe_glob (v := .ref (He.ga K "FORMS")) rfl (glo_FORMS T) rfl) (pv 0) (fun _ _ => rfl)) pa_nil)))
        (pss_cons (ps_set (i := 3) sc_things_of.nd rfl (Or.inl rfl) (pe_callTy call_listK (by rfl) (free_list T) (by decide +kernel) (pa_cons (pv 1) pa_nil)))
        (C8.pss_cut (ps_if (PW.pt (pw_and (pt_cmpR op_eq (pv 0) pe_str (nomark _)) (pw_and (pt_cmpR op_eq (pe_callB call_len_seq (by rfl) (free_len T) (by decide +kernel) (pa_cons (pv 3) pa_nil)) pe_int (nomark _)) (pw_and1 (pt_cmpR op_eq (pe_ix ix_list (pv 3) pe_int (fun _ _ => rfl)) pe_str (nomark _)))))) (pss_cons (ps_expr (pe_bm PySem.F.plainAttrs_list PySem.F.slot_list_append PySem.F.type_list_append mt_appendK (pv 2) (pa_cons pe_str pa_nil)))
        (pss_one (ps_expr (pe_bm PySem.F.plainAttrs_list PySem.F.slot_list_pop PySem.F.type_list_pop mt_popAtK (pv 3) (pa_cons pe_int pa_nil))))) pss_nil)
        (pss_cons (ps_if (pt_cmpR op_ne (pe_callB call_len_seq (by rfl) (free_len T) (by decide +kernel) (pa_cons (pv 3) pa_nil)) (pe_callB call_len_seq (by rfl) (free_len T) (by decide +kernel) (pa_cons (pv 2) pa_nil)) (nomark _)) (pss_one (ps_raise rfl (takes_of rfl rfl rfl rfl) (pmk_own PySem.F.excBase_ValueError (exc_NoRow T).1 (glo_NoRow T) (exc_NoRow T).2.1 (raises_own (exc_NoRow T).2.2.1 (exc_NoRow T).2.2.2) rfl))) pss_nil)
        (pss_one (ps_ret (LcE.pe_lcE (own := [("kind", 4), ("one", 5)]) (g := upG ((gTup K 2 (gCons (gName 4) (gCons (gName 5) gNil))))) (takes_of rfl rfl rfl rfl) (fun _ _ _ _ h => h) rfl rfl rfl sc_things_of.nd (pi_zip (by rfl) (free_zip T) (pa_cons (pv 2) (pa_cons (pv 3) pa_nil))) (blkOk_by (own := [("kind", 4), ("one", 5)]) (N := ["word", "rest", "kinds", "words", "kind", "one"]) (sc := defScope s_things_of) (by decide +kernel)) (fun _ _ _ _ _ => (PG.up ((show PG _ _ (gTup K 2 (gCons (gName 4) (gCons (gName 5) gNil))) from pg_tup rfl (pgs_cons (pg_name (i := 4) sc_things_of.nd rfl (Or.inl rfl)) (pgs_cons (pg_name (i := 5) sc_things_of.nd rfl (Or.inl rfl)) pgs_nil)))))) (fun _ _ _ _ _ => (PTs.up pts_nil)) (fun _ _ _ _ _ _ _ px => (PE.up (pe_call G_thing_by (hr.mono (by decide)) rfl (glo_thing_by T) kp_thing_by b_thing_by .nil px (pa_cons (pv 4) (pa_cons (pv 5) pa_nil)))))))))))), ?_⟩
    walk_at "wks"
    refine ⟨w, form w, rfl, rfl, form_mem w hw, fun t ht => ?_⟩
    refine ⟨t, _, rfl, .inr (ht _), fun kd H1 f1 s1 h1 => ?_⟩
    walk_at "wks"
    refine ⟨p, _, rfl, .inl (s1.seq hp), fun wd H2 f2 s2 h2 => ?_⟩
    refine ⟨fun σ' H' => σ' = [some (.str w), some (.ref p), some (.ref kd), some (.ref wd), none, none] ∧ Same H H' ∧ H' kd = some (.lst ((kindsOf w rest).map V.str)) ∧ H' wd = some (.lst ((wordsOf w rest).map fun l => V.str (SX.S l))), ?_, ?_⟩
    · have s02 : Same H H2 := s1.trans s2
      have h12 : H2 kd = some (.lst ((form w).map V.str)) := s2 _ _ h1
      have no : hasFollow w rest ≠ true → kindsOf w rest = form w ∧ wordsOf w rest = rest := fun q => by
        unfold kindsOf wordsOf
        rw [if_neg q, if_neg q]
        exact ⟨rfl, rfl⟩
      have non : hasFollow w rest ≠ true → H2 kd = some (.lst ((kindsOf w rest).map V.str)) ∧ H2 wd = some (.lst ((wordsOf w rest).map fun l => V.str (SX.S l))) := fun q => by
        rw [(no q).1, (no q).2]
        exact ⟨h12, h2⟩
      walk_at "wks"
      refine iteD (fun e => ?_) (fun e => ?_)
      · walk_at "wks"
        refine iteD (fun e2 => ?_) (fun e2 => ?_)
        · have l6 : rest.length = 6 := by
            have := V.int.inj e2
            rw [List.length_map] at this
            omega
          obtain ⟨x, hx⟩ : ∃ x, rest[4]? = some x := ⟨_, List.getElem?_eq_getElem (by omega)⟩
          have hx2 : atI (rest.map fun l => V.str (SX.S l)) 4 = some (.str (SX.S x)) := atI_nat (j := 4) (by rw [List.getElem?_map, hx]; rfl)
          walk_at "wks"
          refine iteS (b := followS) (by decide +kernel) (fun e3 => ?_) (fun e3 => ?_)
          · have hf : hasFollow w rest = true := by
              unfold hasFollow
              rw [decide_eq_true (V.str.inj e), decide_eq_true l6, decide_eq_true (show rest[4]? = some followS by rw [hx, e3])]
              rfl
            have ne : wd ≠ kd := neF2 f2 h1
            have fl := form_len w hw
            walk_at "wks"
            rename_i H3 m3 h3
            have hw3 := m3 _ _ ne h2
            refine ⟨wd, _, 4, 4, .str (SX.S x), rfl, rfl, hw3, ⟨by decide, by decide⟩, ?_, ?_, fun H4 m4 h4 => ⟨rfl, ?_, ?_, ?_⟩⟩
            · rw [List.length_map, l6]
              decide
            · rw [List.getElem?_map, hx]
              rfl
            · exact (s02.but m3 f1).but m4 (Fr.back f2 s1)
            · unfold kindsOf
              rw [if_pos hf, List.map_append]
              exact m4 _ _ ne.symm h3
            · unfold wordsOf
              rw [if_pos hf, h4, erase_map]
          · refine ⟨rfl, s02, non fun q => e3 ?_⟩
            have := (follow_of q).2.2
            rw [hx] at this
            exact Option.some.inj this
        · refine ⟨rfl, s02, non fun q => e2 ?_⟩
          rw [List.length_map, (follow_of q).2.1]
          rfl
      · refine ⟨rfl, s02, non fun q => e ?_⟩
        rw [(follow_of q).1]
    rintro σ' H3 ⟨rfl, s3, h3, h4⟩
    walk_at "wks"
    refine iteND (fun e => ?_) (fun e => ?_)
    · rcases hk with ⟨ts, hts, _⟩ | ⟨_, k⟩
      · refine absurd ?_ e
        rw [List.length_map, List.length_map, hts.len.1]
      · exact k _ s3
    · walk_at "wks"
      have hlen2 : (kindsOf w rest).length = (wordsOf w rest).length := by
        have := V.int.inj e
        rw [List.length_map, List.length_map] at this
        omega
      have hwl : ∀ l ∈ wordsOf w rest, l.length ≤ 1000 := fun l h => hl l (by
        unfold wordsOf at h
        split at h
        · exact List.mem_of_mem_eraseIdx h
        · exact h)
      have hwn : (wordsOf w rest).length ≤ 1000 := by
        unfold wordsOf
        split
        · exact Nat.le_trans (List.length_eraseIdx_le _ _) hlen
        · exact hlen
      refine ⟨kd, wd, _, _, rfl, .of h3, .of h4, fun D hD => ?_⟩
      have fD : L2.Fr H D := Fr.back hD s3
      have kin := kinds_of (rest := rest) hw
      have n1 : D ≠ kd := neF2 hD h3
      have n2 : D ≠ wd := neF2 hD h4
      rcases hk with ⟨ts, hts, k⟩ | ⟨hn, k⟩
      · refine lcK_zip (by rw [List.length_map, List.length_map]; omega) hD (fun i E1 => Same H E1 ∧ E1 kd = some (.lst ((kindsOf w rest).map V.str)) ∧ E1 wd = some (.lst ((wordsOf w rest).map fun l => V.str (SX.S l))) ∧ E1 D = some (.lst ((ts.take i).map Th.v)))
          (fun E1 f s h => ⟨s3.trans s, s _ _ h3, s _ _ h4, h⟩) (fun i E1 _ q => ⟨.of q.2.1, .of q.2.2.1⟩) ?_ ?_
        · rintro i x y T E1 E2 hx hy ⟨q1, q2, q3, q4⟩ fT sT hT
          rw [List.getElem?_map, Option.map_eq_some_iff] at hx hy
          obtain ⟨kk, hkk, rfl⟩ := hx
          obtain ⟨l, hll, rfl⟩ := hy
          obtain ⟨t, ht, hT2⟩ := hts.get hkk hll
          walk_at "wks"
          refine ⟨kin kk (List.mem_of_getElem? hkk), hwl l (List.mem_of_getElem? hll), .inl ⟨t, hT2, fun E3 s23 => ?_⟩⟩
          have s13 := sT.trans s23
          refine ⟨_, s13 _ _ q4, szlt ?_, fun E4 m4 h4 => ⟨(q1.trans s13).but m4 fD, m4 _ _ n1.symm (s13 _ _ q2), m4 _ _ n2.symm (s13 _ _ q3), ?_⟩⟩
          · rw [List.length_map, List.length_take]
            have := hts.len
            omega
          · rw [h4, List.take_add_one, ht, List.map_append]
            rfl
        · rintro E1 ⟨q1, q2, q3, q4⟩
          refine k D E1 q1 fD ?_
          rw [q4, List.take_of_length_le]
          have := hts.len
          rw [List.length_map]
          omega
      · refine lcK_zip (by rw [List.length_map, List.length_map]; omega) hD (fun i E1 => Same H E1 ∧ E1 kd = some (.lst ((kindsOf w rest).map V.str)) ∧ E1 wd = some (.lst ((wordsOf w rest).map fun l => V.str (SX.S l))) ∧ ∃ ts, Tks ((kindsOf w rest).take i) ((wordsOf w rest).take i) ts ∧ E1 D = some (.lst (ts.map Th.v)))
          (fun E1 f s h => ⟨s3.trans s, s _ _ h3, s _ _ h4, [], .nil, h⟩) (fun i E1 _ q => ⟨.of q.2.1, .of q.2.2.1⟩) ?_ ?_
        · rintro i x y T E1 E2 hx hy ⟨q1, q2, q3, ts, hts, q4⟩ fT sT hT
          rw [List.getElem?_map, Option.map_eq_some_iff] at hx hy
          obtain ⟨kk, hkk, rfl⟩ := hx
          obtain ⟨l, hll, rfl⟩ := hy
          walk_at "wks"
          refine ⟨kin kk (List.mem_of_getElem? hkk), hwl l (List.mem_of_getElem? hll), ?_⟩
          by_cases hT2 : ∃ t, Tk kk l t
          · obtain ⟨t, hT2⟩ := hT2
            refine .inl ⟨t, hT2, fun E3 s23 => ?_⟩
            have s13 := sT.trans s23
            refine ⟨_, s13 _ _ q4, szlt ?_, fun E4 m4 h4 => ⟨(q1.trans s13).but m4 fD, m4 _ _ n1.symm (s13 _ _ q2), m4 _ _ n2.symm (s13 _ _ q3), ts ++ [t], ?_, ?_⟩⟩
            · have := hts.len
              rw [List.length_take, List.length_take] at this
              rw [List.length_map]
              omega
            · rw [List.take_add_one, List.take_add_one, hkk, hll]
              exact hts.app hT2
            · rw [h4, List.map_append]
              rfl
          · exact .inr ⟨fun t h => hT2 ⟨t, h⟩, k.on (q1.trans sT)⟩
        · rintro E1 ⟨_, _, _, ts, hts, _⟩
          rw [List.length_map, List.take_of_length_le (Nat.le_refl _), List.take_of_length_le (Nat.le_of_eq hlen2.symm)] at hts
          exact absurd hts (hn ts)
/-! ### plain: words that tell nothing, rows that are none -/
theorem canonW {l : List Nat} {m n : Int} (h : whole l m = some n) : ∃ k : Nat, n = k ∧ l = TL.numL k ∧ n ≤ m := by
  unfold whole at h
  split at h
  · cases h
  rename_i h1
  split at h
  · rename_i h2
    split at h
    · cases h
    rename_i h3
    split at h
    · cases h
    rename_i h4
    obtain rfl := Option.some.inj h
    have hb := val_bound _ l rfl h2
    have hne : l ≠ [] := fun e => h1 (.inl e)
    have hc := canon _ l rfl hne h2 (by
      by_cases e : l.head? = some 48
      · refine .inl ?_
        match l, hne, e with
        | [x], _, e => rw [Option.some.inj e]
        | x :: y :: r, _, e => exact absurd ⟨e, by simp⟩ h3
      · exact .inr e)
    exact ⟨(val l).toNat, by omega, hc.symm, by omega⟩
  · cases h
theorem letter_iff {c : Nat} : c ∈ letters.cps.toList ↔ 97 ≤ c ∧ c ≤ 122 := by
  have e : letters.cps.toList = (List.range 26).map (fun i => 97 + i) := by decide +kernel
  rw [e, List.mem_map]
  constructor
  · rintro ⟨i, h, q⟩
    have := List.mem_range.mp h
    omega
  · intro h
    exact ⟨c - 97, List.mem_range.mpr (by omega), by omega⟩
def okc (c : Nat) : Bool := isFig c || (decide (c = 46) || (decide (97 ≤ c) && decide (c ≤ 122)))
theorem okc_fig {c : Nat} (h : isFig c = true) : okc c = true := by
  unfold okc
  rw [h, Bool.true_or]
theorem okc_letter {c : Nat} (h : 97 ≤ c ∧ c ≤ 122) : okc c = true := by
  unfold okc
  rw [decide_eq_true h.1, decide_eq_true h.2, Bool.and_self, Bool.or_true, Bool.or_true]
theorem lamp_of {l : List Nat} (h : lampB l = true) : 1 ≤ l.length ∧ l.length ≤ 8 ∧ ∀ c ∈ l, 97 ≤ c ∧ c ≤ 122 := by
  unfold lampB at h
  rw [Bool.and_eq_true, Bool.and_eq_true, decide_eq_true_eq, decide_eq_true_eq, List.all_eq_true] at h
  exact ⟨h.1.1, h.1.2, fun c hc => letter_iff.mp (of_decide_eq_true (h.2 c hc))⟩
theorem lamp_mk {l : List Nat} (h1 : 1 ≤ l.length) (h2 : l.length ≤ 8) (h : ∀ c ∈ l, 97 ≤ c ∧ c ≤ 122) : lampB l = true := by
  unfold lampB
  rw [decide_eq_true h1, decide_eq_true h2, Bool.true_and, Bool.true_and, List.all_eq_true]
  exact fun c hc => decide_eq_true (letter_iff.mpr (h c hc))
theorem inV_mem {z : Str} : ∀ {l : List Str}, inV (.str z) (l.map V.str) = true → z ∈ l := by
  intro l h
  unfold inV at h
  rw [List.any_eq_true] at h
  obtain ⟨y, hy, e⟩ := h
  obtain ⟨x, hx, rfl⟩ := List.mem_map.mp hy
  have e2 : x = z := by
    have e3 : (x == z) = true := e
    exact eq_of_beq e3
  rw [← e2]
  exact hx
theorem sides_lamp : ∀ z ∈ sides, lampB z.cps.toList = true := by decide +kernel
theorem keys_lamp : ∀ z ∈ formsKeys, lampB z.cps.toList = true := by decide +kernel
theorem side_lamp {l : List Nat} (h : sideB (SX.S l) = true) : lampB l = true := sides_lamp _ (inV_mem h)
theorem key_lamp {l : List Nat} (h : SX.S l ∈ formsKeys) : lampB l = true := keys_lamp _ h
theorem lamp_ok {l : List Nat} (h : lampB l = true) : l ≠ [] ∧ l.length ≤ 12 ∧ l.all okc = true ∧ l.head? ≠ some 46 ∧ l.head? ≠ some 48 := by
  obtain ⟨h1, h2, h3⟩ := lamp_of h
  refine ⟨fun e => by rw [e] at h1; exact absurd h1 (by decide), by omega, List.all_eq_true.mpr fun c hc => okc_letter (h3 c hc), fun e => ?_, fun e => ?_⟩ <;>
  · have := h3 _ (List.mem_of_mem_head? e)
    omega
theorem num_ok {k : Nat} (h : k ≤ 999999999999) : TL.numL k ≠ [] ∧ (TL.numL k).length ≤ 12 ∧ (TL.numL k).all okc = true ∧ (TL.numL k).head? ≠ some 46 := by
  refine ⟨TL.numL_ne k, TL.numL_len (by decide) (by show k < 1000000000000; omega), List.all_eq_true.mpr fun c hc => okc_fig (List.all_eq_true.mp (numL_fig k) c hc), fun e => ?_⟩
  have := fig_of (List.all_eq_true.mp (numL_fig k) _ (List.mem_of_mem_head? e))
  omega
theorem written_head (n : Nat) : ∃ r, written n = TL.numL (n / 1000) ++ r ∧ (r = [] ∨ r.head? = some 46) := by
  unfold written
  split
  · exact ⟨[], (List.append_nil _).symm, .inl rfl⟩
  · exact ⟨[46] ++ tail3 (n % 1000), by rw [List.append_assoc], .inr rfl⟩
theorem written_ok {n : Nat} (h : n ≤ 1000000000) : written n ≠ [] ∧ (written n).length ≤ 12 ∧ (written n).all okc = true ∧ (written n).head? ≠ some 46 := by
  obtain ⟨h1, h2, h3, h4⟩ := num_ok (k := n / 1000) (by omega)
  have hd : (written n).head? = (TL.numL (n / 1000)).head? := by
    obtain ⟨r, e, _⟩ := written_head n
    rw [e]
    cases q : TL.numL (n / 1000) with
    | nil => exact absurd q h1
    | cons x s => rfl
  refine ⟨fun e => ?_, written_len h, ?_, by rw [hd]; exact h4⟩
  · rw [e] at hd
    cases q : TL.numL (n / 1000) with
    | nil => exact h1 q
    | cons x s =>
      rw [q] at hd
      cases hd
  · unfold written
    split
    · exact h3
    · rename_i h0
      rw [List.all_append, List.all_append, h3]
      have t := (tail_facts (r := n % 1000) h0 (by omega)).1
      have t2 : (tail3 (n % 1000)).all okc = true := List.all_eq_true.mpr fun c hc => okc_fig (List.all_eq_true.mp t c hc)
      rw [t2]
      rfl
theorem tk_ok {k : Str} {l : List Nat} {t : Th} (h : Tk k l t) : l ≠ [] ∧ l.length ≤ 12 ∧ l.all okc = true ∧ l.head? ≠ some 46 := by
  have W : ∀ {m n : Int}, m ≤ 1000000000 → whole l m = some n → l ≠ [] ∧ l.length ≤ 12 ∧ l.all okc = true ∧ l.head? ≠ some 46 := fun hm e => by
    obtain ⟨k, rfl, rfl, hk⟩ := canonW e
    exact num_ok (by omega)
  rcases h with ⟨_, n, h1, rfl, _⟩ | ⟨_, n, h1, _⟩ | ⟨_, n, h1, _⟩ | ⟨_, n, h1, _⟩ | ⟨_, h1, _⟩ | ⟨_, h1, _⟩
  · exact written_ok h1
  · exact W (by decide) h1
  · exact W (by decide) h1
  · exact W (by decide) h1
  · obtain ⟨a, b, c, d, _⟩ := lamp_ok (side_lamp h1)
    exact ⟨a, b, c, d⟩
  · obtain ⟨a, b, c, d, _⟩ := lamp_ok h1
    exact ⟨a, b, c, d⟩
theorem num_nought {k : Nat} {x : List Nat} (h : TL.numL k = 48 :: x) : x = [] := by
  by_cases e : k = 0
  · subst e
    rw [TL.numL_lt (by decide)] at h
    exact (List.cons.inj h).2.symm
  · obtain ⟨c, r, e1, e2⟩ := numL_head k e
    rw [e1] at h
    exact absurd (List.cons.inj h).1 e2
/-- a word that tells nothing, whatever is wanted -/
def Odd (x : List Nat) : Prop := (∀ k t, ¬ Tk k x t) ∧ whole x 999999999999 = none
theorem whole_none {x : List Nat} {m : Int} (h : ∀ k : Nat, (k : Int) ≤ m → x ≠ TL.numL k) : whole x m = none := by
  cases e : whole x m with
  | none => rfl
  | some n =>
    obtain ⟨k, rfl, e2, hk⟩ := canonW e
    exact absurd e2 (h k hk)
theorem odd_by {x : List Nat} (h : ¬ (x ≠ [] ∧ x.length ≤ 12 ∧ x.all okc = true ∧ x.head? ≠ some 46)) : Odd x := by
  refine ⟨fun k t q => h (tk_ok q), whole_none fun k hk e => h ?_⟩
  rw [e]
  exact num_ok (by omega)
theorem odd_nil : Odd [] := odd_by fun h => h.1 rfl
theorem odd_char {x : List Nat} {c : Nat} (hc : c ∈ x) (h : okc c = false) : Odd x := odd_by fun q => by
  have := List.all_eq_true.mp q.2.2.1 c hc
  rw [h] at this
  cases this
theorem odd_long {x : List Nat} (h : 13 ≤ x.length) : Odd x := odd_by fun q => by
  have := q.2.1
  omega
theorem odd_nought {x : List Nat} (h1 : x ≠ []) (h2 : x.head? ≠ some 46) : Odd (48 :: x) := by
  have W : ∀ {m n : Int}, whole (48 :: x) m = some n → False := fun e => by
    obtain ⟨k, _, e2, _⟩ := canonW e
    exact h1 (num_nought e2.symm)
  refine ⟨fun k t h => ?_, ?_⟩
  · rcases h with ⟨_, n, _, e, _⟩ | ⟨_, n, q, _⟩ | ⟨_, n, q, _⟩ | ⟨_, n, q, _⟩ | ⟨_, q, _⟩ | ⟨_, q, _⟩
    · obtain ⟨r, e2, hr⟩ := written_head n
      rw [e2] at e
      cases q : TL.numL (n / 1000) with
      | nil => exact TL.numL_ne _ q
      | cons a s =>
        rw [q, List.cons_append] at e
        obtain ⟨rfl, rfl⟩ := List.cons.inj e
        have := num_nought q
        subst this
        rw [List.nil_append] at h1 h2
        rcases hr with hr | hr
        · exact h1 hr
        · exact h2 hr
    · exact W q
    · exact W q
    · exact W q
    · exact (lamp_ok (side_lamp q)).2.2.2.2 rfl
    · exact (lamp_ok q).2.2.2.2 rfl
  · cases e : whole (48 :: x) 999999999999 with
    | none => rfl
    | some n => exact (W e).elim
theorem Odd.lamp {x : List Nat} (h : Odd x) : lampB x = false := by
  cases e : lampB x with
  | false => rfl
  | true => exact absurd (tk_name.mpr ⟨e, rfl⟩) (h.1 _ _)
/-- what a row's words tell -/
def RowIs (ws : List (List Nat)) (hand : List Nat) (tick : Int) (w : Str) (ts : List Th) : Prop :=
  ∃ tk wd rest, ws = hand :: tk :: wd :: rest ∧ lampB hand = true ∧ whole tk 999999999999 = some tick ∧ SX.S wd = w ∧ w ∈ formsKeys ∧ Tks (kindsOf w rest) (wordsOf w rest) ts
/-- a text that is no row -/
def Bad (l : List Nat) : Prop := ∀ hand tick w ts, ¬ RowIs (FX.words 32 l) hand tick w ts
theorem Tks.mem {ks : List Str} {ls : List (List Nat)} {ts : List Th} (h : Tks ks ls ts) {x : List Nat} (hx : x ∈ ls) : ∃ k t, Tk k x t := by
  obtain ⟨i, hi, e⟩ := List.mem_iff_getElem.mp hx
  have hk : i < ks.length := by
    rw [h.len.1]
    exact hi
  obtain ⟨t, _, q⟩ := h.get (List.getElem?_eq_getElem hk) (List.getElem?_eq_getElem hi)
  rw [e] at q
  exact ⟨_, _, q⟩
theorem rest_mem {w : Str} {rest : List (List Nat)} {x : List Nat} (hx : x ∈ rest) : x ∈ wordsOf w rest ∨ x = followS := by
  unfold wordsOf
  split
  · rename_i h
    obtain ⟨_, _, e⟩ := follow_of h
    obtain ⟨i, hi⟩ := List.mem_iff_getElem?.mp hx
    by_cases q : i = 4
    · rw [q, e] at hi
      exact .inr (Option.some.inj hi).symm
    · exact .inl (List.mem_eraseIdx_iff_getElem?.mpr ⟨i, q, hi⟩)
  · exact .inl hx
theorem odd_row {ws : List (List Nat)} {x : List Nat} (hx : x ∈ ws) (h : Odd x) (hand : List Nat) (tick : Int) (w : Str) (ts : List Th) : ¬ RowIs ws hand tick w ts := by
  rintro ⟨tk, wd, rest, rfl, h1, h2, rfl, h4, h5⟩
  rcases List.mem_cons.mp hx with rfl | hx
  · rw [h.lamp] at h1
    cases h1
  rcases List.mem_cons.mp hx with rfl | hx
  · rw [h.2] at h2
    cases h2
  rcases List.mem_cons.mp hx with rfl | hx
  · have := key_lamp h4
    rw [h.lamp] at this
    cases this
  rcases rest_mem (w := SX.S wd) hx with hx | rfl
  · obtain ⟨k, t, q⟩ := h5.mem hx
    exact h.1 k t q
  · have := h.lamp
    revert this
    decide +kernel
theorem tks_len {w : Str} {rest : List (List Nat)} {ts : List Th} (h : Tks (kindsOf w rest) (wordsOf w rest) ts) : rest.length = (form w).length ∨ (w = "put" ∧ rest.length = 6) := by
  by_cases q : hasFollow w rest = true
  · exact .inr ⟨(follow_of q).1, (follow_of q).2.1⟩
  · have e := h.len.1
    unfold kindsOf wordsOf at e
    rw [if_neg q, if_neg q] at e
    exact .inl e.symm
theorem row_ok {ws : List (List Nat)} {hand : List Nat} {tick : Int} {w : Str} {ts : List Th} (h : RowIs ws hand tick w ts) : ∀ x ∈ ws, x ≠ [] ∧ x.length ≤ 12 ∧ x.all okc = true ∧ x.head? ≠ some 46 := by
  obtain ⟨tk, wd, rest, rfl, h1, h2, rfl, h4, h5⟩ := h
  have L : ∀ {z : List Nat}, lampB z = true → z ≠ [] ∧ z.length ≤ 12 ∧ z.all okc = true ∧ z.head? ≠ some 46 := fun hz => by
    obtain ⟨a, b, c, d, _⟩ := lamp_ok hz
    exact ⟨a, b, c, d⟩
  intro x hx
  rcases List.mem_cons.mp hx with rfl | hx
  · exact L h1
  rcases List.mem_cons.mp hx with rfl | hx
  · obtain ⟨k, rfl, rfl, hk⟩ := canonW h2
    exact num_ok (by omega)
  rcases List.mem_cons.mp hx with rfl | hx
  · exact L (key_lamp h4)
  rcases rest_mem (w := SX.S wd) hx with hx | rfl
  · obtain ⟨k, t, q⟩ := h5.mem hx
    exact tk_ok q
  · exact L (by decide +kernel)
theorem okc_blank : okc 32 = false := by decide
theorem row_free {ws : List (List Nat)} {hand : List Nat} {tick : Int} {w : Str} {ts : List Th} (h : RowIs ws hand tick w ts) : ∀ x ∈ ws, 32 ∉ x := fun x hx q => by
  have := List.all_eq_true.mp (row_ok h x hx).2.2.1 _ q
  rw [okc_blank] at this
  cases this
theorem row_len {ws : List (List Nat)} {hand : List Nat} {tick : Int} {w : Str} {ts : List Th} (h : RowIs ws hand tick w ts) : 3 ≤ ws.length ∧ ws.length ≤ 9 := by
  obtain ⟨tk, wd, rest, rfl, _, _, rfl, h4, h5⟩ := h
  have := form_len _ h4
  rcases tks_len h5 with e | ⟨_, e⟩ <;> simp only [List.length_cons] <;> omega
theorem join_len : ∀ {ws : List (List Nat)}, (∀ x ∈ ws, x.length ≤ 30) → (TL.joinL [32] ws).length ≤ 31 * ws.length
  | [], _ => Nat.zero_le _
  | [p], h => by
    have := h p List.mem_cons_self
    show p.length ≤ 31 * 1
    omega
  | p :: q :: r, h => by
    have h1 := h p List.mem_cons_self
    have h2 := join_len (ws := q :: r) fun x hx => h x (List.mem_cons_of_mem _ hx)
    show (p ++ ([32] ++ TL.joinL [32] (q :: r))).length ≤ 31 * (r.length + 1 + 1)
    rw [List.length_append, List.length_append]
    have h3 : (q :: r).length = r.length + 1 := rfl
    rw [h3] at h2
    show p.length + (1 + _) ≤ _
    omega
theorem bad_join {ws : List (List Nat)} (hne : ws ≠ []) (hf : ∀ x ∈ ws, 32 ∉ x) (h : ∀ hand tick w ts, ¬ RowIs ws hand tick w ts) : Bad (TL.joinL [32] ws) := by
  unfold Bad
  rw [FX.words_join hne hf]
  exact h
/-- the row with one word spoilt -/
def Spoils (x y : List Nat) : Prop := y = 48 :: x ∨ y = x ++ [48, 48, 48, 48, 48, 48, 48, 48, 48, 48, 48, 48] ∨ y = x ++ [9]
theorem spoils_odd {x y : List Nat} (h : Spoils x y) (h1 : x ≠ []) (h2 : x.head? ≠ some 46) : Odd y := by
  rcases h with rfl | rfl | rfl
  · exact odd_nought h1 h2
  · refine odd_long ?_
    have := List.length_pos_iff.mpr h1
    rw [List.length_append]
    show 13 ≤ x.length + 12
    omega
  · exact odd_char (c := 9) (by simp) (by decide)
theorem spoils_free {x y : List Nat} (h : Spoils x y) (hx : 32 ∉ x) : 32 ∉ y := by
  rcases h with rfl | rfl | rfl <;> simp [hx]
theorem spoils_len {x y : List Nat} (h : Spoils x y) : y.length ≤ x.length + 12 := by
  rcases h with rfl | rfl | rfl <;> simp
theorem bad_spoilt {ws : List (List Nat)} {hand : List Nat} {tick : Int} {w : Str} {ts : List Th} (h : RowIs ws hand tick w ts) {i : Nat} {x y : List Nat} (hx : ws[i]? = some x) (hs : Spoils x y) :
    Bad (TL.joinL [32] (ws.set i y)) ∧ (TL.joinL [32] (ws.set i y)).length ≤ 1000 := by
  have hm := List.mem_of_getElem? hx
  have hlt : i < ws.length := (List.getElem?_eq_some_iff.mp hx).1
  have ho := row_ok h x hm
  have hmem : ∀ z ∈ ws.set i y, z ∈ ws ∨ z = y := fun z hz => List.mem_or_eq_of_mem_set hz
  refine ⟨bad_join ?_ ?_ ?_, ?_⟩
  · intro e
    have := congrArg List.length e
    rw [List.length_set] at this
    rw [this] at hlt
    exact absurd hlt (Nat.not_lt_zero _)
  · intro z hz
    rcases hmem z hz with hz | rfl
    · exact row_free h z hz
    · exact spoils_free hs (row_free h x hm)
  · exact odd_row (x := y) (List.mem_set hlt y) (spoils_odd hs ho.1 ho.2.2.2)
  · have q := join_len (ws := ws.set i y) (fun z hz => by
      rcases hmem z hz with hz | rfl
      · have := (row_ok h z hz).2.1
        omega
      · have := spoils_len hs
        have := ho.2.1
        omega)
    rw [List.length_set] at q
    have := (row_len h).2
    omega

/-! ### plain: the other changes of a row -/
theorem join_snoc : ∀ {ws : List (List Nat)} {y : List Nat}, ws ≠ [] → TL.joinL [32] (ws ++ [y]) = TL.joinL [32] ws ++ 32 :: y
  | [], _, h => absurd rfl h
  | [p], y, _ => rfl
  | p :: q :: r, y, _ => by
    have h := join_snoc (ws := q :: r) (y := y) (List.cons_ne_nil _ _)
    show p ++ ([32] ++ TL.joinL [32] (q :: (r ++ [y]))) = (p ++ ([32] ++ TL.joinL [32] (q :: r))) ++ 32 :: y
    have h : TL.joinL [32] (q :: (r ++ [y])) = TL.joinL [32] (q :: r) ++ 32 :: y := h
    rw [h, List.append_assoc, List.append_assoc]
theorem put_form : (form "put").length = 4 := by decide +kernel
section
variable {ws : List (List Nat)} {hand : List Nat} {tick : Int} {w : Str} {ts : List Th}
theorem row_ne (h : RowIs ws hand tick w ts) : ws ≠ [] := by
  obtain ⟨tk, wd, rest, rfl, _⟩ := h
  exact List.cons_ne_nil _ _
theorem row_size (h : RowIs ws hand tick w ts) : (TL.joinL [32] ws).length ≤ 279 := by
  have q := join_len (ws := ws) fun x hx => by
    have := (row_ok h x hx).2.1
    omega
  have := (row_len h).2
  omega
/-- a word more that tells nothing, or that is one too many -/
theorem bad_more (h : RowIs ws hand tick w ts) {y : List Nat} (hy : 32 ∉ y) : Bad (TL.joinL [32] ws ++ 32 :: y) := by
  rw [← join_snoc (row_ne h)]
  refine bad_join (by simp) (fun x hx => ?_) ?_
  · rcases List.mem_append.mp hx with hx | hx
    · exact row_free h x hx
    · rw [List.mem_singleton.mp hx]
      exact hy
  obtain ⟨tk, wd, rest, rfl, h1, h2, rfl, h4, h5⟩ := h
  rintro hand' tick' w' ts' ⟨tk', wd', rest', e, _, _, rfl, _, h5'⟩
  have e : hand :: tk :: wd :: (rest ++ [y]) = hand' :: tk' :: wd' :: rest' := e
  injection e with e0 f1
  injection f1 with e1 f2
  injection f2 with e2 f3
  subst e2
  have hl := congrArg List.length f3
  rw [List.length_append] at hl
  have hl : rest.length + 1 = rest'.length := hl
  rcases tks_len h5 with a | ⟨ea, a⟩ <;> rcases tks_len h5' with b | ⟨eb, b⟩
  · omega
  · rw [eb, put_form] at a
    omega
  · rw [ea, put_form] at b
    omega
  · omega
theorem bad_less (h : RowIs ws hand tick w ts) : Bad (TL.joinL [32] ws.dropLast) := by
  refine bad_join ?_ (fun x hx => row_free h x (List.dropLast_subset _ hx)) ?_
  · intro e
    have := congrArg List.length e
    rw [List.length_dropLast] at this
    have := (row_len h).1
    simp only [List.length_nil] at *
    omega
  obtain ⟨tk, wd, rest, rfl, h1, h2, rfl, h4, h5⟩ := h
  rintro hand' tick' w' ts' ⟨tk', wd', rest', e, _, _, rfl, _, h5'⟩
  cases rest with
  | nil =>
    have := congrArg List.length e
    simp at this
  | cons x r =>
    have e : hand :: tk :: wd :: (x :: r).dropLast = hand' :: tk' :: wd' :: rest' := e
    injection e with e0 f1
    injection f1 with e1 f2
    injection f2 with e2 f3
    subst e2
    have hl := congrArg List.length f3
    rw [List.length_dropLast] at hl
    have hx : (x :: r).length = r.length + 1 := rfl
    rw [hx] at hl
    rcases tks_len h5 with a | ⟨ea, a⟩ <;> rcases tks_len h5' with b | ⟨eb, b⟩ <;> rw [hx] at a
    · omega
    · rw [eb, put_form] at a
      omega
    · rw [ea, put_form] at b
      omega
    · omega
/-- another word ahead of all -/
theorem bad_ahead (h : RowIs ws hand tick w ts) : Bad (32 :: TL.joinL [32] ws) := by
  have e : 32 :: TL.joinL [32] ws = TL.joinL [32] ([] :: ws) := by
    obtain ⟨tk, wd, rest, rfl, _⟩ := h
    rfl
  rw [e]
  refine bad_join (List.cons_ne_nil _ _) (fun x hx => ?_) (odd_row (x := []) List.mem_cons_self odd_nil)
  rcases List.mem_cons.mp hx with rfl | hx
  · exact List.not_mem_nil
  · exact row_free h x hx
/-- the first words of a row and what stands behind -/
structure Heads (l a tk r : List Nat) : Prop where
  e : l = a ++ 32 :: (tk ++ 32 :: r)
  b2 : Bad (a ++ ([32, 32] ++ (tk ++ 32 :: r)))
  b6 : Bad (a ++ 32 :: (48 :: (tk ++ 32 :: r)))
  b7 : Bad (a ++ 32 :: (45 :: (tk ++ 32 :: r)))
  fa : 32 ∉ a
  ne : a ≠ []
  ab : ∀ c ∈ a, 97 ≤ c ∧ c ≤ 122
  b3 : ∀ (c u : Nat) (s : List Nat), a = c :: s → 65 ≤ u → u ≤ 90 → Bad (u :: (s ++ 32 :: (tk ++ 32 :: r)))
theorem heads (h : RowIs ws hand tick w ts) : ∃ a tk r, Heads (TL.joinL [32] ws) a tk r := by
  have hf := row_free h
  have ho := row_ok h
  obtain ⟨tk, wd, rest, rfl, h1, h2, rfl, h4, h5⟩ := h
  have hfa : 32 ∉ hand := hf hand List.mem_cons_self
  have hft : 32 ∉ tk := hf tk (List.mem_cons_of_mem _ List.mem_cons_self)
  have hfr : ∀ x ∈ wd :: rest, 32 ∉ x := fun x hx => hf x (List.mem_cons_of_mem _ (List.mem_cons_of_mem _ hx))
  have hot := ho tk (List.mem_cons_of_mem _ List.mem_cons_self)
  have mk : ∀ {a t : List Nat}, 32 ∉ a → 32 ∉ t → Odd a ∨ Odd t → Bad (a ++ 32 :: (t ++ 32 :: TL.joinL [32] (wd :: rest))) := fun {a t} ha ht ho => by
    show Bad (TL.joinL [32] (a :: t :: wd :: rest))
    refine bad_join (List.cons_ne_nil _ _) (fun x hx => ?_) ?_
    · rcases List.mem_cons.mp hx with rfl | hx
      · exact ha
      rcases List.mem_cons.mp hx with rfl | hx
      · exact ht
      · exact hfr x hx
    · rcases ho with ho | ho
      · exact odd_row List.mem_cons_self ho
      · exact odd_row (List.mem_cons_of_mem _ List.mem_cons_self) ho
  refine ⟨hand, tk, TL.joinL [32] (wd :: rest), rfl, ?_, ?_, ?_, hfa, ?_, (lamp_of h1).2.2, ?_⟩
  · show Bad (TL.joinL [32] (hand :: [] :: tk :: wd :: rest))
    refine bad_join (List.cons_ne_nil _ _) (fun x hx => ?_) (odd_row (x := []) (List.mem_cons_of_mem _ List.mem_cons_self) odd_nil)
    rcases List.mem_cons.mp hx with rfl | hx
    · exact hfa
    rcases List.mem_cons.mp hx with rfl | hx
    · exact List.not_mem_nil
    rcases List.mem_cons.mp hx with rfl | hx
    · exact hft
    · exact hfr x hx
  · exact mk (t := 48 :: tk) hfa (by simp [hft]) (.inr (odd_nought hot.1 hot.2.2.2))
  · exact mk (t := 45 :: tk) hfa (by simp [hft]) (.inr (odd_char (c := 45) List.mem_cons_self (by decide)))
  · exact (lamp_ok h1).1
  · intro c u s e u1 u2
    refine mk (a := u :: s) ?_ hft (.inl (odd_char (c := u) List.mem_cons_self ?_))
    · rw [e] at hfa
      intro q
      rcases List.mem_cons.mp q with q | q
      · omega
      · exact hfa (List.mem_cons_of_mem _ q)
    · unfold okc isFig
      rw [decide_eq_false (show ¬ u ≤ 57 by omega), decide_eq_false (show ¬ u = 46 by omega), decide_eq_false (show ¬ 97 ≤ u by omega)]
      simp
/-- the row up to its last blank -/
theorem lasts (h : RowIs ws hand tick w ts) : ∃ a r, TL.joinL [32] ws = a ++ 32 :: r ∧ 32 ∉ r ∧ Bad a := by
  have hl := row_len h
  have hne := row_ne h
  obtain ⟨y, hy⟩ : ∃ y, ws.getLast? = some y := by
    cases e : ws.getLast? with
    | none => exact absurd (List.getLast?_eq_none_iff.mp e) hne
    | some y => exact ⟨y, rfl⟩
  have e : ws = ws.dropLast ++ [y] := by
    rw [List.getLast?_eq_some_iff] at hy
    obtain ⟨ys, rfl⟩ := hy
    rw [List.dropLast_concat]
  have hd : ws.dropLast ≠ [] := fun q => by
    have := congrArg List.length q
    rw [List.length_dropLast] at this
    simp only [List.length_nil] at this
    omega
  refine ⟨TL.joinL [32] ws.dropLast, y, ?_, row_free h y (List.mem_of_getLast? hy), bad_less h⟩
  rw [← join_snoc hd, ← e]
end
/-! ### fixed texts -/
def timeB (l : List Nat) : Bool := !(decide (46 ∈ l) && decide (l.getLast? = some 48))
def kB (k : Str) (l : List Nat) : Bool :=
  if k = "time" then timeB l else if k = "number" then (match whole l 1000000000 with | some n => decide (1 ≤ n) | none => false)
  else if k = "worth" then (whole l 1000000000).isSome else if k = "level" then (whole l 1000).isSome else if k = "side" then sideB (SX.S l) else lampB l
def tksB : List Str → List (List Nat) → Bool
  | [], [] => true
  | k :: ks, l :: ls => kB k l && tksB ks ls
  | _, _ => false
def rowB : List (List Nat) → Bool
  | hand :: tk :: wd :: rest => lampB hand && ((whole tk 999999999999).isSome && (decide (SX.S wd ∈ formsKeys) && tksB (kindsOf (SX.S wd) rest) (wordsOf (SX.S wd) rest)))
  | _ => false
theorem written_time {n : Nat} (h : n ≤ 1000000000) : timeB (written n) = true := by
  unfold timeB written
  split
  · rw [decide_eq_false (free_num _)]
    rfl
  · rename_i h0
    have t := tail_facts (r := n % 1000) h0 (by omega)
    have hn : tail3 (n % 1000) ≠ [] := fun e => by
      rw [e] at t
      exact absurd t.2.1 (by decide)
    have q : ((TL.numL (n / 1000) ++ [46]) ++ tail3 (n % 1000)).getLast? = (tail3 (n % 1000)).getLast? := by
      rw [List.getLast?_append]
      cases q : (tail3 (n % 1000)).getLast? with
      | none => exact absurd (List.getLast?_eq_none_iff.mp q) hn
      | some z => rfl
    rw [q, decide_eq_false t.2.2.2.1, Bool.and_false]
    rfl
theorem kB_of {k : Str} {l : List Nat} {t : Th} (h : Tk k l t) : kB k l = true := by
  unfold kB
  rcases h with ⟨rfl, n, h1, rfl, _⟩ | ⟨rfl, n, h1, h2, _⟩ | ⟨rfl, n, h1, _⟩ | ⟨rfl, n, h1, _⟩ | ⟨rfl, h1, _⟩ | ⟨rfl, h1, _⟩
  · rw [if_pos rfl]
    exact written_time h1
  · rw [if_neg (by decide +kernel), if_pos rfl, h1]
    exact decide_eq_true h2
  · rw [if_neg (by decide +kernel), if_neg (by decide +kernel), if_pos rfl, h1]
    rfl
  · rw [if_neg (by decide +kernel), if_neg (by decide +kernel), if_neg (by decide +kernel), if_pos rfl, h1]
    rfl
  · rw [if_neg (by decide +kernel), if_neg (by decide +kernel), if_neg (by decide +kernel), if_neg (by decide +kernel), if_pos rfl]
    exact h1
  · rw [if_neg (by decide +kernel), if_neg (by decide +kernel), if_neg (by decide +kernel), if_neg (by decide +kernel), if_neg (by decide +kernel)]
    exact h1
theorem tksB_of {ks : List Str} {ls : List (List Nat)} {ts : List Th} (h : Tks ks ls ts) : tksB ks ls = true := by
  induction h with
  | nil => rfl
  | cons h _ ih =>
    show (kB _ _ && tksB _ _) = true
    rw [kB_of h, ih]
    rfl
theorem rowB_of {ws : List (List Nat)} {hand : List Nat} {tick : Int} {w : Str} {ts : List Th} (h : RowIs ws hand tick w ts) : rowB ws = true := by
  obtain ⟨tk, wd, rest, rfl, h1, h2, rfl, h4, h5⟩ := h
  show (lampB hand && ((whole tk 999999999999).isSome && (decide (SX.S wd ∈ formsKeys) && tksB _ _))) = true
  rw [h1, h2, decide_eq_true h4, tksB_of h5]
  rfl
theorem bad_fixed {z : Str} (h : rowB (FX.words 32 z.cps.toList) = false := by decide +kernel) : Bad z.cps.toList := fun hand tick w ts q => by
  rw [rowB_of q] at h
  cases h

/-! ### a row read -/
theorem words_len {l x : List Nat} (h : x ∈ FX.words 32 l) : x.length ≤ l.length := by
  have q : SX.S x ∈ Txt.split (SX.S l) (SX.S [32]) := by
    rw [FX.words_S l (by decide)]
    exact List.mem_map_of_mem h
  have := PyProof.Rows.part_short q
  rw [SX.S_len, SX.S_len] at this
  exact this
theorem words_many (l : List Nat) : (FX.words 32 l).length ≤ l.length + 2 := by
  have := PyProof.Rows.split_le (SX.S l) (SX.S [32])
  rw [FX.words_S l (by decide), List.length_map, SX.S_len] at this
  exact this
theorem cut_3 {a b c : V} {xs : List V} : cutV (a :: b :: c :: xs) (some 3) none = xs := by
  have h := (show cutV (a :: b :: c :: xs) (some ((3 : Nat) : Int)) none = (a :: b :: c :: xs).drop 3 from by
    unfold cutV
    rw [HT.sIx_nat, HT.sIx_none, Nat.min_eq_left (by simp)]
    exact List.take_of_length_le (by rw [List.length_drop]; exact Nat.le_refl _))
  exact h
def spRowOf (K : PySem.W.Frag) : Sp := fun vs H Q E => ∃ v : V, vs = [v] ∧ ((IsA K H v "str" false ∧ NoRowE K H E) ∨ ∃ l : List Nat, v = .str (SX.S l) ∧ l.length ≤ 1000 ∧
  ((∃ hand tick w ts, RowIs (FX.words 32 l) hand tick w ts ∧ ∀ (p q : Addr) H', Same H H' → L2.Fr H q → H' p = some (.tup [.str (SX.S hand), .int tick, .str w, .ref q]) → H' q = some (.lst (ts.map Th.v)) → Q (.ref p) H') ∨ (Bad l ∧ NoRowE K H E)))
theorem ok_row_of (T : Txt K mg) (TB : L2.FormsD K w (He.ga K "FORMS") formsKeys) : ∃ fd, FnOk P w K mg base (L2.CX P w) 7 (He.fAd K ("row_of", none)) fd ["row"] (spRowOf K) ∧ FunD K "row_of" "row_of" (defArgs s_row_of) (defBody s_row_of) (defScope s_row_of) [] [] (He.fAd K ("row_of", none)) fd := by
  obtain ⟨fd, F⟩ := T.c.def_ 11 (d := d_row_of) rfl
  obtain ⟨fd_number_by, G_number_by, F_number_by⟩ := ok_number_by (P := P) (w := w) (base := base) T
  have kp_number_by := F_number_by.kp
  have b_number_by : Binds K fd_number_by ["word", "least", "most"] [] := FunD.bindsN F_number_by (fun _ _ _ _ _ _ us hl => match us, hl with | [_, _, _], _ => rfl)
  obtain ⟨fd_things_of, G_things_of, F_things_of⟩ := ok_things_of (P := P) (w := w) (base := base) T TB
  have kp_things_of := F_things_of.kp
  have b_things_of : Binds K fd_things_of ["word", "rest"] [] := FunD.bindsN F_things_of (fun _ _ _ _ _ _ us hl => match us, hl with | [_, _], _ => rfl)
  obtain ⟨fd_is_lamp, G_is_lamp, F_is_lamp⟩ := ok_is_lamp (P := P) (w := w) (base := base) T
  have kp_is_lamp := F_is_lamp.kp
  have b_is_lamp : Binds K fd_is_lamp ["thing"] [] := FunD.bindsN F_is_lamp (fun _ _ _ _ _ _ us hl => match us, hl with | [_], _ => rfl)
  obtain ⟨t_LAST_TICK, g_LAST_TICK⟩ := int_LAST_TICK T
  refine ⟨fd, F.ok sc_row_of (by walk_at "g94len") (fun cdv A outer st H vs Q E hr h => ?_), F⟩
  · obtain ⟨v, rfl, ⟨⟨u, h1, h2⟩, k⟩ | ⟨l, rfl, hl, hk⟩⟩ := h
    · refine ⟨_, (pss_cons (ps_if (pt_not (pt_val (pe_callB call_isi (by rfl) (free_isinstance T) (by decide +kernel) (pa_cons (pv 0) (pa_cons (pe_bltn (v := .ty "str") (by rfl) (free_str T) (by decide +kernel) rfl) pa_nil))))) (pss_one (ps_raise rfl (takes_of rfl rfl rfl rfl) (pmk_own PySem.F.excBase_ValueError (exc_NoRow T).1 (glo_NoRow T) (exc_NoRow T).2.1 (raises_own (exc_NoRow T).2.2.1 (exc_NoRow T).2.2.2) rfl))) pss_nil)
        (pss_cons (ps_set (i := 1) sc_row_of.nd rfl (Or.inl rfl) (pe_bm PySem.F.plainAttrs_str PySem.F.slot_str_split PySem.F.type_str_split mt_splitK (pv 0) (pa_cons pe_str pa_nil)))
        (pss_cons (ps_if (PW.pt (pw_or (pt_cmpR op_lt (pe_callB call_len_seq (by rfl) (free_len T) (by decide +kernel) (pa_cons (pv 1) pa_nil)) pe_int (nomark _)) (pw_or (pt_not (pt_val (pe_call G_is_lamp (hr.mono (by decide)) rfl (glo_is_lamp T) kp_is_lamp b_is_lamp .nil pass0 (pa_cons (pe_ix ix_list (pv 1) pe_int (fun _ _ => rfl)) pa_nil)))) (pw_or1 (pt_cmpR (op_notInF TB rfl (forms_FORMS T)) (pe_ix ix_list (pv 1) pe_int (fun _ _ => rfl)) (pe_glob (v := .ref (He.ga K "FORMS")) rfl (glo_FORMS T) rfl) (by with_unfolding_all rfl)))))) (pss_one (ps_raise rfl (takes_of rfl rfl rfl rfl) (pmk_own PySem.F.excBase_ValueError (exc_NoRow T).1 (glo_NoRow T) (exc_NoRow T).2.1 (raises_own (exc_NoRow T).2.2.1 (exc_NoRow T).2.2.2) rfl))) pss_nil)
        (pss_cons (ps_set (i := 2) sc_row_of.nd rfl (Or.inl rfl) (pe_call G_number_by (hr.mono (by decide)) rfl (glo_number_by T) kp_number_by b_number_by .nil (passes_call (takes_of rfl rfl rfl rfl) (fun _ _ _ _ h => h)) (pa_cons (pe_ix ix_list (pv 1) pe_int (fun _ _ => rfl)) (pa_cons pe_int (pa_cons (pe_glob (v := .int 999999999999) rfl g_LAST_TICK ⟨_, rfl⟩) pa_nil)))))
        (pss_one (ps_ret (pe_tupK (pa_cons (pe_ix ix_list (pv 1) pe_int (fun _ _ => rfl)) (pa_cons (pv 2) (pa_cons (pe_ix ix_list (pv 1) pe_int (fun _ _ => rfl)) (pa_cons (pe_call G_things_of (hr.mono (by decide)) rfl (glo_things_of T) kp_things_of b_things_of .nil (passes_call (takes_of rfl rfl rfl rfl) (fun _ _ _ _ h => h)) (pa_cons (pe_ix ix_list (pv 1) pe_int (fun _ _ => rfl)) (pa_cons (pe_slice sl_listK (pv 1) (po_some pe_int) po_none) pa_nil))) pa_nil))))))))))), ?_⟩
      refine ⟨_, rfl, _, _, _, _, false, rfl, .ty _, h1, h2, ?_⟩
      walk_at "wks"
      exact k _ (Same.refl _)
    · refine ⟨_, (pss_cons (ps_if (pt_not (pt_val (pe_callB call_isi (by rfl) (free_isinstance T) (by decide +kernel) (pa_cons (pv 0) (pa_cons (pe_bltn (v := .ty "str") (by rfl) (free_str T) (by decide +kernel) rfl) pa_nil))))) (pss_one (ps_raise rfl (takes_of rfl rfl rfl rfl) (pmk_own PySem.F.excBase_ValueError (exc_NoRow T).1 (glo_NoRow T) (exc_NoRow T).2.1 (raises_own (exc_NoRow T).2.2.1 (exc_NoRow T).2.2.2) rfl))) pss_nil)
        (pss_cons (ps_set (i := 1) sc_row_of.nd rfl (Or.inl rfl) (pe_bm PySem.F.plainAttrs_str PySem.F.slot_str_split PySem.F.type_str_split mt_splitK (pv 0) (pa_cons pe_str pa_nil)))
        (pss_cons (ps_if (PW.pt (pw_or (pt_cmpR op_lt (pe_callB call_len_seq (by rfl) (free_len T) (by decide +kernel) (pa_cons (pv 1) pa_nil)) pe_int (nomark _)) (pw_or (pt_not (pt_val (pe_call G_is_lamp (hr.mono (by decide)) rfl (glo_is_lamp T) kp_is_lamp b_is_lamp .nil pass0 (pa_cons (pe_ix ix_list (pv 1) pe_int (fun _ _ => rfl)) pa_nil)))) (pw_or1 (pt_cmpR (op_notInF TB rfl (forms_FORMS T)) (pe_ix ix_list (pv 1) pe_int (fun _ _ => rfl)) (pe_glob (v := .ref (He.ga K "FORMS")) rfl (glo_FORMS T) rfl) (by with_unfolding_all rfl)))))) (pss_one (ps_raise rfl (takes_of rfl rfl rfl rfl) (pmk_own PySem.F.excBase_ValueError (exc_NoRow T).1 (glo_NoRow T) (exc_NoRow T).2.1 (raises_own (exc_NoRow T).2.2.1 (exc_NoRow T).2.2.2) rfl))) pss_nil)
        (pss_cons (ps_set (i := 2) sc_row_of.nd rfl (Or.inl rfl) (pe_call G_number_by (hr.mono (by decide)) rfl (glo_number_by T) kp_number_by b_number_by .nil (passes_call (takes_of rfl rfl rfl rfl) (fun _ _ _ _ h => h)) (pa_cons (pe_ix ix_list (pv 1) pe_int (fun _ _ => rfl)) (pa_cons pe_int (pa_cons (pe_glob (v := .int 999999999999) rfl g_LAST_TICK ⟨_, rfl⟩) pa_nil)))))
        (pss_one (ps_ret (pe_tupK (pa_cons (pe_ix ix_list (pv 1) pe_int (fun _ _ => rfl)) (pa_cons (pv 2) (pa_cons (pe_ix ix_list (pv 1) pe_int (fun _ _ => rfl)) (pa_cons (pe_call G_things_of (hr.mono (by decide)) rfl (glo_things_of T) kp_things_of b_things_of .nil (passes_call (takes_of rfl rfl rfl rfl) (fun _ _ _ _ h => h)) (pa_cons (pe_ix ix_list (pv 1) pe_int (fun _ _ => rfl)) (pa_cons (pe_slice sl_listK (pv 1) (po_some pe_int) po_none) pa_nil))) pa_nil))))))))))), ?_⟩
      walk_at "wks"
      refine ⟨by rw [len_S]; exact small_size (by omega), ?_⟩
      rw [show ((" " : Str)) = SX.S [32] by decide +kernel, FX.words_S l (by decide)]
      intro pw H1 f1 s1 h1
      have hL : ∀ x ∈ FX.words 32 l, x.length ≤ 1000 := fun x hx => Nat.le_trans (words_len hx) hl
      have hM := words_many l
      unfold Bad at hk
      generalize FX.words 32 l = ws at hk hL hM h1 ⊢
      have h1 : H1 pw = some (.lst (ws.map fun x => V.str (SX.S x))) := by
        rw [h1, List.map_map]
        rfl
      walk_at "wks"
      walk_at "ri" <;> intro c1
      · rw [List.length_map] at c1
        rcases hk with ⟨hand, tick, w, ts, hr, _⟩ | ⟨_, k⟩
        · have := (row_len hr).1
          omega
        · exact k _ s1
      rw [List.length_map] at c1
      obtain ⟨a, b, c, rest, rfl⟩ : ∃ a b c rest, ws = a :: b :: c :: rest := by
        match ws, c1 with
        | a :: b :: c :: rest, _ => exact ⟨a, b, c, rest, rfl⟩
        | [], h => exact absurd (show ((0 : Nat) : Int) < 3 by decide) h
        | [a], h => exact absurd (show ((1 : Nat) : Int) < 3 by decide) h
        | [a, b], h => exact absurd (show ((2 : Nat) : Int) < 3 by decide) h
      have la := hL a List.mem_cons_self
      have lb := hL b (List.mem_cons_of_mem _ List.mem_cons_self)
      have lc := hL c (List.mem_cons_of_mem _ (List.mem_cons_of_mem _ List.mem_cons_self))
      have lr : ∀ x ∈ rest, x.length ≤ 1000 := fun x hx => hL x (List.mem_cons_of_mem _ (List.mem_cons_of_mem _ (List.mem_cons_of_mem _ hx)))
      have i0 : atI ((a :: b :: c :: rest).map fun x => V.str (SX.S x)) 0 = some (.str (SX.S a)) := atI_nat (j := 0) rfl
      have i1 : atI ((a :: b :: c :: rest).map fun x => V.str (SX.S x)) 1 = some (.str (SX.S b)) := atI_nat (j := 1) rfl
      have i2 : atI ((a :: b :: c :: rest).map fun x => V.str (SX.S x)) 2 = some (.str (SX.S c)) := atI_nat (j := 2) rfl
      walk_at "wks"
      refine ⟨_, _, rfl, .inl ⟨a, rfl, la, rfl⟩, ?_⟩
      cases ea : lampB a with
      | false =>
        walk_at "wks"
        rcases hk with ⟨hand, tick, w, ts, ⟨tk, wd, r, e, q, _⟩, _⟩ | ⟨_, k⟩
        · injection e with e0 _
          rw [← e0, ea] at q
          cases q
        · exact k _ s1
      | true =>
        walk_at "wks"
        by_cases hkey : SX.S c ∈ formsKeys
        · rw [decide_eq_true hkey]
          walk_at "wks"
          cases ew : whole b 999999999999 with
          | none =>
            refine .inr ⟨fun n q => (by cases q), ?_⟩
            rcases hk with ⟨hand, tick, w, ts, ⟨tk, wd, r, e, _, q, _⟩, _⟩ | ⟨_, k⟩
            · injection e with e0 f
              injection f with e1 _
              rw [← e1, ew] at q
              cases q
            · exact k.on s1
          | some n =>
            obtain ⟨nk, hn, _⟩ := canonW ew
            refine .inl ⟨n, rfl, by omega, ?_⟩
            walk_at "wks"
            rename_i p H2 f2 s2 h2
            have h2 : H2 p = some (.lst (rest.map fun x => V.str (SX.S x))) := h2.trans (congrArg (fun z => some (HO.lst z)) cut_3)
            have hm : rest.length ≤ 1000 := by
              simp only [List.length_cons] at hM
              omega
            refine ⟨SX.S c, p, rest, rfl, hkey, .of h2, hm, lr, ?_⟩
            rcases hk with ⟨hand, tick, w, ts, ⟨tk, wd, r, e, q1, q2, rfl, q3, q4⟩, k⟩ | ⟨hb, k⟩
            · injection e with e0 f
              injection f with e1 f
              injection f with e2 e3
              subst e0 e1 e2 e3
              rw [ew] at q2
              obtain rfl := Option.some.inj q2
              refine .inl ⟨ts, q4, fun q H3 s3 fq hq => ?_⟩
              walk_at "wks"
              rename_i pt H4 f4 s4 h4
              exact k pt q H4 (((s1.trans s2).trans s3).trans s4) (Fr.back fq (s1.trans s2)) h4 (s4 _ _ hq)
            · exact .inr ⟨fun ts h => hb a n (SX.S c) ts ⟨b, c, rest, rfl, ea, ew, rfl, hkey, h⟩, k.on (s1.trans s2)⟩
        · rw [decide_eq_false hkey]
          walk_at "wks"
          rcases hk with ⟨hand, tick, w, ts, ⟨tk, wd, r, e, _, _, rfl, q, _⟩, _⟩ | ⟨_, k⟩
          · injection e with e0 f
            injection f with e1 f
            injection f with e2 _
            rw [← e2] at q
            exact absurd q hkey
          · exact k _ s1
/-! ### the reader, as far as it is asked -/
def zero : List Nat := [48]
theorem written0 : written 0 = zero := by decide +kernel
def spTicksOf : Sp := fun vs H Q _ => vs = [.str (SX.S zero)] ∧ ∀ H', Same H H' → Q (.int 0) H'
theorem ok_ticks_of (T : Txt K mg) : ∃ fd, FnOk P w K mg base CX0 4 (He.fAd K ("ticks_of", none)) fd ["word"] spTicksOf ∧ FunD K "ticks_of" "ticks_of" (defArgs s_ticks_of) (defBody s_ticks_of) (defScope s_ticks_of) [] [] (He.fAd K ("ticks_of", none)) fd := by
  obtain ⟨fd, F⟩ := T.c.def_ 12 (d := d_ticks_of) rfl
  obtain ⟨fd_time_of, G_time_of, F_time_of⟩ := ok_time_of (P := P) (w := w) (base := base) T
  have kp_time_of := F_time_of.kp
  have b_time_of : Binds K fd_time_of ["text"] [] := FunD.bindsN F_time_of (fun _ _ _ _ _ _ us hl => match us, hl with | [_], _ => rfl)
  refine ⟨fd, F.ok sc_ticks_of (by walk_at "g94len") (fun cdv A outer st H vs Q E hr h => ?_), F⟩
  · obtain ⟨rfl, k⟩ := h
    refine ⟨_, PSs.nox (pss_one (L2H.ps_try_else rfl rfl ⟨rfl, by decide, .inl (glo_NoText T)⟩ (fun hd => PassesOwnAt.never) takes0 (fun W pn xe tk _ => (pss_one (ps_set (i := 1) sc_ticks_of.nd rfl (Or.inl rfl) (pe_callS G_time_of (hr.mono (by decide)) rfl (glo_time_of T) kp_time_of b_time_of (fun σ => L2N.passAt tk σ) (pa_cons (pv 0) pa_nil))))) (fun a oe cls d pn tk2 hot => (pss_one (ps_ret pe_non))) (pss_one (ps_ret (pv 1))))), ?_⟩
    walk_at "wks"
    refine .inr ⟨zero, rfl, by decide, .inl ⟨0, by decide, written0.symm, fun H' s => ?_⟩⟩
    walk_at "wks"
    exact k _ s
def spTimesOf (K : PySem.W.Frag) : Sp := fun vs H Q _ => ∃ p : Addr, vs = [.ref p] ∧ SqL K H p [.str (SX.S zero), .str (SX.S zero), .str (SX.S zero)] ∧ ∀ (q : Addr) H', Same H H' → L2.Fr H q → H' q = some (.lst [.int 0, .int 0, .int 0]) → Q (.ref q) H'
theorem ok_times_of (T : Txt K mg) : ∃ fd, FnOk P w K mg base CX0 5 (He.fAd K ("times_of", none)) fd ["words"] (spTimesOf K) ∧ FunD K "times_of" "times_of" (defArgs s_times_of) (defBody s_times_of) (defScope s_times_of) [] [] (He.fAd K ("times_of", none)) fd := by
  obtain ⟨fd, F⟩ := T.c.def_ 13 (d := d_times_of) rfl
  obtain ⟨fd_ticks_of, G_ticks_of, F_ticks_of⟩ := ok_ticks_of (P := P) (w := w) (base := base) T
  have kp_ticks_of := F_ticks_of.kp
  have b_ticks_of : Binds K fd_ticks_of ["word"] [] := FunD.bindsN F_ticks_of (fun _ _ _ _ _ _ us hl => match us, hl with | [_], _ => rfl)
  refine ⟨fd, F.ok sc_times_of (by walk_at "g94len") (fun cdv A outer st H vs Q E hr h => ?_), F⟩
  · obtain ⟨p, rfl, hp, k⟩ := h
    refine ⟨_, PSs.nox (pss_cons (ps_setLc (i := 1) (own := [("word", 2)]) (g := upG (gName 2)) rfl sc_times_of.nd rfl rfl (sw_true rfl rfl rfl (by decide +kernel)) (pi_list (pv 0)) (blkOk_by (own := [("word", 2)]) (N := ["words", "found", "word"]) (sc := defScope s_times_of) (by decide +kernel)) (fun _ _ _ _ _ => (PG.up (pg_name (i := 2) sc_times_of.nd rfl (Or.inl rfl)))) (fun _ _ _ _ _ => (PTs.up pts_nil)) (fun _ _ _ _ _ => (PE.up (pe_call G_ticks_of (hr.mono (by decide)) rfl (glo_ticks_of T) kp_ticks_of b_ticks_of .nil pass0 (pa_cons (pv 2) pa_nil)))))
        (pss_cons (ps_if (pt_cmpR op_in_seq pe_non (pv 1) (by with_unfolding_all rfl)) (pss_one (ps_ret pe_non)) pss_nil)
        (pss_one (ps_ret (pv 1))))), ?_⟩
    walk_at "wks"
    have i53 : ∀ i (x : V), [V.str (SX.S zero), V.str (SX.S zero), V.str (SX.S zero)][i]? = some x → x = .str (SX.S zero) := fun i x h => by
      have q := List.mem_of_getElem? h
      simp only [List.mem_cons, List.not_mem_nil, or_false, or_self] at q
      exact q
    refine fun D hD => lcK_list (K := K) (a := p) (xs := [.str (SX.S zero), .str (SX.S zero), .str (SX.S zero)]) hD (fun i H' => i ≤ 3 ∧ Same H H' ∧ H' D = some (.lst (List.replicate i (.int 0)))) (fun H' f s h => ⟨by decide, s, h⟩) (fun i H' _ q => q.2.1.seq hp) ?_ ?_
    · rintro i x H1 hx ⟨i3, s1, h1⟩
      have hi : i < 3 := (List.getElem?_eq_some_iff.mp hx).1
      obtain rfl := i53 i x hx
      walk_at "wks"
      intro H2 s2
      refine ⟨_, s2 _ _ h1, szlt (by rw [List.length_replicate]; omega), fun H3 m3 h3 => ⟨hi, (s1.trans s2).but m3 hD, ?_⟩⟩
      rw [h3]
      congr 2
      exact List.replicate_succ'.symm
    · rintro H1 ⟨_, s1, h1⟩
      have h1 : H1 D = some (.lst [.int 0, .int 0, .int 0]) := h1
      walk_at "wks"
      exact k D H1 s1 hD h1
def five : List Nat := [53]
def spHeadOf (K : PySem.W.Frag) : Sp := fun vs H Q _ => ∃ p : Addr, vs = [.ref p] ∧ H p = some (.lst [.str "cue", .str (SX.S five)]) ∧ ∀ (q : Addr) H', Same H H' → L2.Fr H q → H' q = some (.tup [.int 5, .bl false, .non]) → Q (.ref q) H'
theorem ok_head_of (T : Txt K mg) : ∃ fd, FnOk P w K mg base CX0 2 (He.fAd K ("head_of", none)) fd ["words"] (spHeadOf K) ∧ FunD K "head_of" "head_of" (defArgs s_head_of) (defBody s_head_of) (defScope s_head_of) [] [] (He.fAd K ("head_of", none)) fd := by
  obtain ⟨fd, F⟩ := T.c.def_ 14 (d := d_head_of) rfl
  obtain ⟨fd_whole_of, G_whole_of, F_whole_of⟩ := ok_whole_of (P := P) (w := w) (base := base) T
  have kp_whole_of := F_whole_of.kp
  have b_whole_of : Binds K fd_whole_of ["word", "most"] [] := FunD.bindsN F_whole_of (fun _ _ _ _ _ _ us hl => match us, hl with | [_, _], _ => rfl)
  obtain ⟨fd_ticks_of, G_ticks_of, F_ticks_of⟩ := ok_ticks_of (P := P) (w := w) (base := base) T
  have kp_ticks_of := F_ticks_of.kp
  have b_ticks_of : Binds K fd_ticks_of ["word"] [] := FunD.bindsN F_ticks_of (fun _ _ _ _ _ _ us hl => match us, hl with | [_], _ => rfl)
  obtain ⟨t_MOST_reader, g_MOST_reader⟩ := int_MOST_reader T
  refine ⟨fd, F.ok sc_head_of (by walk_at "g94len") (fun cdv A outer st H vs Q E hr h => ?_), F⟩
  · obtain ⟨p, rfl, hp, k⟩ := h
    refine ⟨_, PSs.nox (pss_cons (ps_if (pt_cmpR op_lt (pe_callB call_len_seq (by rfl) (free_len T) (by decide +kernel) (pa_cons (pv 0) pa_nil)) pe_int (nomark _)) (pss_one (ps_ret pe_non)) pss_nil)
        (pss_cons (ps_set (i := 1) sc_head_of.nd rfl (Or.inl rfl) (pe_call G_whole_of (hr.mono (by decide)) rfl (glo_whole_of T) kp_whole_of b_whole_of .nil pass0 (pa_cons (pe_ix ix_list (pv 0) pe_int (fun _ _ => rfl)) (pa_cons (pe_glob (v := .int 1000000000) rfl g_MOST_reader ⟨_, rfl⟩) pa_nil))))
        (pss_cons (ps_if (PW.pt (pw_or (pt_cmpR op_isN (pv 1) pe_non (nomark _)) (pw_or1 (pt_cmpR op_eq (pv 1) pe_int (nomark _))))) (pss_one (ps_ret pe_non)) pss_nil)
        (pss_cons (ps_set (i := 2) sc_head_of.nd rfl (Or.inl rfl) (pe_slice sl_listK (pv 0) (po_some pe_int) po_none))
        (pss_cons (ps_set (i := 3) sc_head_of.nd rfl (Or.inl rfl) (pe_cmpR (op_eqD hr.units) (pe_slice sl_listK (pv 2) po_none (po_some pe_int)) (pe_lstK (pa_cons pe_str pa_nil)) (nomark _)))
        (pss_cons (ps_if (pt_val (pv 3)) (pss_one (ps_set (i := 2) sc_head_of.nd rfl (Or.inl rfl) (pe_slice sl_listK (pv 2) (po_some pe_int) po_none))) pss_nil)
        (pss_cons (ps_if (pt_cmpR (op_eqD hr.units) (pv 2) (pe_lstK pa_nil) (nomark _)) (pss_one (ps_ret (pe_tupK (pa_cons (pv 1) (pa_cons (pv 3) (pa_cons pe_non pa_nil)))))) pss_nil)
        pss_never))))))), ?_⟩
    have i1 : atI [V.str "cue", V.str (SX.S five)] 1 = some (V.str (SX.S five)) := rfl
    have w5 : optV (whole five 1000000000) = .int 5 := by decide +kernel
    have f5 : five.length ≤ 1000 := by decide
    walk_at "wks"
    rw [w5]
    walk_at "wks"
    rename_i pr H1 f1 s1 h1 pc H2 f2 s2 h2 pt H3 f3 s3 h3
    have h1 : H1 pr = some (.lst []) := h1
    have h2 : H2 pc = some (.lst []) := h2
    refine ⟨.list [], .list [.str "stop"], .lst (.of (s3 _ _ h2)) .nil, .lst (.of h3) (.cons (.str _) .nil), by decide +kernel, by decide +kernel, ?_⟩
    rw [show PyData.eqv (.list []) (.list [.str "stop"]) = false by decide +kernel]
    walk_at "wks"
    rename_i pn H4 f4 s4 h4
    refine ⟨.list [], .list [], .lst (.of (s4 _ _ (s3 _ _ (s2 _ _ h1)))) .nil, .lst (.of h4) .nil, by decide +kernel, by decide +kernel, ?_⟩
    rw [show PyData.eqv (.list []) (.list []) = true by decide +kernel]
    walk_at "wks"
    rename_i q H5 f5' s5 h5
    exact k q H5 ((((s1.trans s2).trans s3).trans s4).trans s5) (Fr.back f5' (((s1.trans s2).trans s3).trans s4)) h5
theorem Fr.backBut {H H' : Hp} {s p : Addr} {o : HO} (f : L2.Fr H' p) (m : But s H H') (hs : H' s = some o) : L2.Fr H p := by
  by_cases e : p = s
  · subst e
    have f : H' p = none := f
    rw [f] at hs
    cases hs
  · show H p = none
    cases q : H p with
    | none => rfl
    | some u =>
      have z := m p u e q
      have f : H' p = none := f
      rw [f] at z
      cases z
abbrev cSh (K : PySem.W.Frag) : Addr := He.ga K "Sheet"
/-- a sheet: its list, its head, its parts -/
def ShO (K : PySem.W.Frag) (dx pc : Addr) (hd : V) (pp : Addr) : HO := .ins (cSh K) dx [("cues", .ref pc), ("head", hd), ("parts", .ref pp)]
def spSheetInit (K : PySem.W.Frag) : Sp := fun vs H Q _ => ∃ s dx : Addr, vs = [.ref s] ∧ H s = some (.ins (cSh K) dx []) ∧ ∀ (pc pp : Addr) H', But s H H' → H' s = some (ShO K dx pc .non pp) → H' pp = some (.lst []) → L2.Fr H pp → Q .non H'
theorem ok_Sheet_init (T : Txt K mg) : ∃ fd, FnOk P w K mg base CX0 1 (He.fAd K ("Sheet", some "__init__")) fd ["self"] (spSheetInit K) ∧ FunD K "__init__" "Sheet.__init__" (defArgs s_Sheet_init) (defBody s_Sheet_init) (defScope s_Sheet_init) [] [] (He.fAd K ("Sheet", some "__init__")) fd := by
  obtain ⟨fd, F⟩ := T.c.def_ 15 (d := d_Sheet_init) rfl
  have cl_Sheet := cls_Sheet T
  have na_Sheet_cues := na_Sheet_cues T
  have na_Sheet_head := na_Sheet_head T
  have na_Sheet_parts := na_Sheet_parts T
  refine ⟨fd, F.ok sc_Sheet_init (by walk_at "g94len") (fun cdv A outer st H vs Q E hr h => ?_), F⟩
  · obtain ⟨s, dx, rfl, hs, k⟩ := h
    refine ⟨_, PSs.nox (pss_cons (ps_fldK (pv 0) (pe_lstK pa_nil) rfl)
        (pss_cons (ps_fldK (pv 0) pe_non rfl)
        (pss_one (ps_fldK (pv 0) (pe_lstK pa_nil) rfl)))), ?_⟩
    walk_at "wks"
    rename_i pc H1 f1 s1 h1 H2 m2 h2 H3 m3 h3 pp H4 f4 s4 h4 H5 m5 h5
    have m03 : But s H H3 := (s1.thenBut m2).trans m3
    exact k pc pp H5 ((m03.same s4).trans m5) h5 (m5 _ _ (neF2 f4 h3) h4) (Fr.backBut f4 m03 h3)
def spEnded (K : PySem.W.Frag) : Sp := fun vs H Q _ => ∃ (s dx pc pp : Addr) (hd : V), vs = [.ref s] ∧ H s = some (ShO K dx pc hd pp) ∧ ((hd = .non ∧ Q (.bl true) H) ∨ (∃ q, hd = .ref q ∧ H pp = some (.lst []) ∧ ∀ H', Same H H' → Q (.bl false) H'))
theorem ok_Sheet_ended (T : Txt K mg) : ∃ fd, FnOk P w K mg base CX0 1 (He.fAd K ("Sheet", some "ended")) fd ["self"] (spEnded K) ∧ FunD K "ended" "Sheet.ended" (defArgs s_Sheet_ended) (defBody s_Sheet_ended) (defScope s_Sheet_ended) [] [] (He.fAd K ("Sheet", some "ended")) fd := by
  obtain ⟨fd, F⟩ := T.c.def_ 16 (d := d_Sheet_ended) rfl
  have cl_Sheet := cls_Sheet T
  have na_Sheet_cues := na_Sheet_cues T
  have na_Sheet_head := na_Sheet_head T
  have na_Sheet_parts := na_Sheet_parts T
  refine ⟨fd, F.ok sc_Sheet_ended (by walk_at "g94len") (fun cdv A outer st H vs Q E hr h => ?_), F⟩
  · obtain ⟨s, dx, pc, pp, hd, rfl, hs, hk⟩ := h
    refine ⟨_, PSs.nox (pss_cons (ps_if (pt_cmpR op_isN (pe_fld (pv 0) rfl) pe_non (nomark _)) (pss_one (ps_ret pe_bl)) pss_nil)
        (pss_cons (ps_if (pt_cmpR (op_eqD hr.units) (pe_fld (pv 0) rfl) (pe_lstK pa_nil) (nomark _)) (pss_one (ps_ret pe_bl)) pss_nil)
        pss_never)), ?_⟩
    unfold ShO at hs
    rcases hk with ⟨rfl, k⟩ | ⟨q, rfl, hp, k⟩
    · walk_at "wks"
      exact k
    · walk_at "wks"
      rename_i pn H1 f1 s1 h1
      refine ⟨.list [], .list [], .lst (.of (s1 _ _ hp)) .nil, .lst (.of h1) .nil, by decide +kernel, by decide +kernel, ?_⟩
      rw [show PyData.eqv (.list []) (.list []) = true by decide +kernel]
      walk_at "wks"
      exact k _ s1
def cueW : List V := [.str "cue", .str (SX.S five)]
def partW : List V := [.str "part", .str (SX.S zero), .str (SX.S zero), .str (SX.S zero)]
def spTakeCue (K : PySem.W.Frag) : Sp := fun vs H Q _ => ∃ (s p dx pc pp : Addr), vs = [.ref s, .ref p] ∧ H p = some (.lst cueW) ∧ H s = some (ShO K dx pc .non pp) ∧ ∀ (q : Addr) H', But s H H' → H' s = some (ShO K dx pc (.ref q) pp) → Q (.bl true) H'
theorem ok_Sheet_take_cue (T : Txt K mg) : ∃ fd, FnOk P w K mg base CX0 3 (He.fAd K ("Sheet", some "take_cue")) fd ["self", "words"] (spTakeCue K) ∧ FunD K "take_cue" "Sheet.take_cue" (defArgs s_Sheet_take_cue) (defBody s_Sheet_take_cue) (defScope s_Sheet_take_cue) [] [] (He.fAd K ("Sheet", some "take_cue")) fd := by
  obtain ⟨fd, F⟩ := T.c.def_ 17 (d := d_Sheet_take_cue) rfl
  obtain ⟨fd_head_of, G_head_of, F_head_of⟩ := ok_head_of (P := P) (w := w) (base := base) T
  have kp_head_of := F_head_of.kp
  have b_head_of : Binds K fd_head_of ["words"] [] := FunD.bindsN F_head_of (fun _ _ _ _ _ _ us hl => match us, hl with | [_], _ => rfl)
  obtain ⟨fd_Sheet_ended, G_Sheet_ended, F_Sheet_ended⟩ := ok_Sheet_ended (P := P) (w := w) (base := base) T
  have kp_Sheet_ended := F_Sheet_ended.kp
  have b_Sheet_ended : Binds K fd_Sheet_ended ["self"] [] := FunD.bindsN F_Sheet_ended (fun _ _ _ _ _ _ us hl => match us, hl with | [_], _ => rfl)
  have cl_Sheet := cls_Sheet T
  have na_Sheet_head := na_Sheet_head T
  refine ⟨fd, F.ok sc_Sheet_take_cue (by walk_at "g94len") (fun cdv A outer st H vs Q E hr h => ?_), F⟩
  · obtain ⟨s, p, dx, pc, pp, rfl, hp, hs, k⟩ := h
    refine ⟨_, PSs.nox (pss_cons (ps_set (i := 2) sc_Sheet_take_cue.nd rfl (Or.inl rfl) (pe_call G_head_of (hr.mono (by decide)) rfl (glo_head_of T) kp_head_of b_head_of .nil pass0 (pa_cons (pv 1) pa_nil)))
        (pss_cons (ps_set (i := 3) sc_Sheet_take_cue.nd rfl (Or.inl rfl) (pe_fld (pv 0) rfl))
        (pss_cons (ps_if (PW.pt (pw_or (pt_cmpR op_isN (pv 2) pe_non (nomark _)) (pw_or1 (PW.pt (pw_and (pt_cmpR op_notN (pv 3) pe_non (nomark _)) (pw_and1 (pt_cmpR op_le (pe_ix ix_tup (pv 2) pe_int (fun _ _ => rfl)) (pe_ix ix_tup (pv 3) pe_int (fun _ _ => rfl)) (nomark _)))))))) (pss_one (ps_ret pe_bl)) pss_nil)
        (pss_cons (ps_if (pt_not (pt_val (pe_meth0 (pv 0) (cls_Sheet T) (m_Sheet_ended T) G_Sheet_ended (hr.mono (by decide)) b_Sheet_ended .nil pass0))) (pss_one (ps_ret pe_bl)) pss_nil)
        (pss_cons (ps_fldK (pv 0) (pv 2) rfl)
        (pss_one (ps_ret pe_bl))))))), ?_⟩
    unfold ShO at hs
    unfold cueW at hp
    walk_at "wks"
    intro q H1 s1 f1 h1
    have hs1 := s1 _ _ hs
    walk_at "wks"
    refine ⟨s, dx, pc, pp, .non, rfl, hs1, .inl ⟨rfl, ?_⟩⟩
    walk_at "wks"
    rename_i H2 m2 h2
    exact k q H2 (s1.thenBut m2) h2
def spTakePart (K : PySem.W.Frag) : Sp := fun vs H Q _ => ∃ (s p dx pc pp q : Addr), vs = [.ref s, .ref p] ∧ H p = some (.lst partW) ∧ H s = some (ShO K dx pc (.ref q) pp) ∧ H pp = some (.lst []) ∧ ∀ (t : Addr) H', But pp H H' → H' pp = some (.lst [.ref t]) → Q (.bl true) H'
theorem ok_Sheet_take_part (T : Txt K mg) : ∃ fd, FnOk P w K mg base CX0 6 (He.fAd K ("Sheet", some "take_part")) fd ["self", "words"] (spTakePart K) ∧ FunD K "take_part" "Sheet.take_part" (defArgs s_Sheet_take_part) (defBody s_Sheet_take_part) (defScope s_Sheet_take_part) [] [] (He.fAd K ("Sheet", some "take_part")) fd := by
  obtain ⟨fd, F⟩ := T.c.def_ 18 (d := d_Sheet_take_part) rfl
  obtain ⟨fd_times_of, G_times_of, F_times_of⟩ := ok_times_of (P := P) (w := w) (base := base) T
  have kp_times_of := F_times_of.kp
  have b_times_of : Binds K fd_times_of ["words"] [] := FunD.bindsN F_times_of (fun _ _ _ _ _ _ us hl => match us, hl with | [_], _ => rfl)
  have cl_Sheet := cls_Sheet T
  have na_Sheet_head := na_Sheet_head T
  have na_Sheet_parts := na_Sheet_parts T
  refine ⟨fd, F.ok sc_Sheet_take_part (by walk_at "g94len") (fun cdv A outer st H vs Q E hr h => ?_), F⟩
  · obtain ⟨s, p, dx, pc, pp, q, rfl, hp, hs, hpp, k⟩ := h
    refine ⟨_, PSs.nox (pss_cons (ps_if (PW.pt (pw_or (pt_cmpR op_isN (pe_fld (pv 0) rfl) pe_non (nomark _)) (pw_or (pt_cmpR op_ne (pe_callB call_len_seq (by rfl) (free_len T) (by decide +kernel) (pa_cons (pv 1) pa_nil)) pe_int (nomark _)) (pw_or1 (pt_cmpR op_eq (pe_callB call_len_seq (by rfl) (free_len T) (by decide +kernel) (pa_cons (pe_fld (pv 0) rfl) pa_nil)) pe_int (nomark _)))))) (pss_one (ps_ret pe_bl)) pss_nil)
        (pss_cons (ps_set (i := 2) sc_Sheet_take_part.nd rfl (Or.inl rfl) (pe_call G_times_of (hr.mono (by decide)) rfl (glo_times_of T) kp_times_of b_times_of .nil pass0 (pa_cons (pe_slice sl_listK (pv 1) (po_some pe_int) po_none) pa_nil)))
        (pss_cons (ps_if (pt_cmpR op_isN (pv 2) pe_non (nomark _)) (pss_one (ps_ret pe_bl)) pss_nil)
        (pss_cons (ps_expr (pe_bm PySem.F.plainAttrs_list PySem.F.slot_list_append PySem.F.type_list_append mt_appendK (pe_fld (pv 0) rfl) (pa_cons (pe_tupK (pa_cons (pv 2) (pa_cons pe_dnewTK (pa_cons pe_dnewTK pa_nil)))) pa_nil)))
        (pss_one (ps_ret pe_bl)))))), ?_⟩
    unfold ShO at hs
    unfold partW at hp
    walk_at "wks"
    rename_i p1 H1 f1 s1 h1
    intro t2 H2 s2 f2 h2
    have s12 := s1.trans s2
    have hs2 := s12 _ _ hs
    have hp2 := s12 _ _ hpp
    walk_at "wks"
    rename_i pa H3 f3 s3 h3 pb H4 f4 s4 h4 pt H5 f5 s5 h5 H6 m6 h6
    exact k pt H6 ((((s12.trans s3).trans s4).trans s5).thenBut m6) h6
def spNever : Sp := fun _ _ _ _ => False
theorem ok_Sheet_take_telling (T : Txt K mg) : ∃ fd, FnOk P w K mg base CX0 1 (He.fAd K ("Sheet", some "take_telling")) fd ["self", "words"] spNever ∧ FunD K "take_telling" "Sheet.take_telling" (defArgs s_Sheet_take_telling) (defBody s_Sheet_take_telling) (defScope s_Sheet_take_telling) [] [] (He.fAd K ("Sheet", some "take_telling")) fd := by
  obtain ⟨fd, F⟩ := T.c.def_ 19 (d := d_Sheet_take_telling) rfl
  obtain ⟨t_MOST_reader, g_MOST_reader⟩ := int_MOST_reader T
  have cl_Sheet := cls_Sheet T
  have na_Sheet_parts := na_Sheet_parts T
  refine ⟨fd, F.ok sc_Sheet_take_telling (by walk_at "g94len") (fun cdv A outer st H vs Q E hr h => ?_), F⟩
  · exact h.elim
def badW (z : Str) : Bool := decide (z ≠ "cue") && (decide (z ≠ "part") && (decide (z ≠ "on") && decide (z ≠ "alone")))
def spTake (K : PySem.W.Frag) : Sp := fun vs H Q _ => ∃ (s p dx pc pp : Addr) (hd : V), vs = [.ref s, .ref p] ∧ H s = some (ShO K dx pc hd pp) ∧
  ((H p = some (.lst cueW) ∧ hd = .non ∧ ∀ (q : Addr) H', But s H H' → H' s = some (ShO K dx pc (.ref q) pp) → Q (.bl true) H') ∨
   (H p = some (.lst partW) ∧ H pp = some (.lst []) ∧ (∃ q, hd = .ref q) ∧ ∀ (t : Addr) H', But pp H H' → H' pp = some (.lst [.ref t]) → Q (.bl true) H') ∨
   (∃ (z : Str) (zs : List V), H p = some (.lst (.str z :: zs)) ∧ badW z = true ∧ Q (.bl false) H))
theorem ok_Sheet_take (T : Txt K mg) : ∃ fd, FnOk P w K mg base CX0 7 (He.fAd K ("Sheet", some "take")) fd ["self", "words"] (spTake K) ∧ FunD K "take" "Sheet.take" (defArgs s_Sheet_take) (defBody s_Sheet_take) (defScope s_Sheet_take) [] [] (He.fAd K ("Sheet", some "take")) fd := by
  obtain ⟨fd, F⟩ := T.c.def_ 20 (d := d_Sheet_take) rfl
  obtain ⟨fd_Sheet_take_cue, G_Sheet_take_cue, F_Sheet_take_cue⟩ := ok_Sheet_take_cue (P := P) (w := w) (base := base) T
  have kp_Sheet_take_cue := F_Sheet_take_cue.kp
  have b_Sheet_take_cue : Binds K fd_Sheet_take_cue ["self", "words"] [] := FunD.bindsN F_Sheet_take_cue (fun _ _ _ _ _ _ us hl => match us, hl with | [_, _], _ => rfl)
  obtain ⟨fd_Sheet_take_part, G_Sheet_take_part, F_Sheet_take_part⟩ := ok_Sheet_take_part (P := P) (w := w) (base := base) T
  have kp_Sheet_take_part := F_Sheet_take_part.kp
  have b_Sheet_take_part : Binds K fd_Sheet_take_part ["self", "words"] [] := FunD.bindsN F_Sheet_take_part (fun _ _ _ _ _ _ us hl => match us, hl with | [_, _], _ => rfl)
  obtain ⟨fd_Sheet_take_telling, G_Sheet_take_telling, F_Sheet_take_telling⟩ := ok_Sheet_take_telling (P := P) (w := w) (base := base) T
  have kp_Sheet_take_telling := F_Sheet_take_telling.kp
  have b_Sheet_take_telling : Binds K fd_Sheet_take_telling ["self", "words"] [] := FunD.bindsN F_Sheet_take_telling (fun _ _ _ _ _ _ us hl => match us, hl with | [_, _], _ => rfl)
  refine ⟨fd, F.ok sc_Sheet_take (by walk_at "g94len") (fun cdv A outer st H vs Q E hr h => ?_), F⟩
  · obtain ⟨s, p, dx, pc, pp, hd, rfl, hs, hk⟩ := h
    refine ⟨_, PSs.nox (pss_cons (ps_if (pt_cmpR op_eq (pe_ix ix_list (pv 1) pe_int (fun _ _ => rfl)) pe_str (nomark _)) (pss_one (ps_ret (pe_meth (pv 0) (cls_Sheet T) (m_Sheet_take_cue T) G_Sheet_take_cue (hr.mono (by decide)) b_Sheet_take_cue .nil pass0 (pa_cons (pv 1) pa_nil)))) pss_nil)
        (pss_cons (ps_if (pt_cmpR op_eq (pe_ix ix_list (pv 1) pe_int (fun _ _ => rfl)) pe_str (nomark _)) (pss_one (ps_ret (pe_meth (pv 0) (cls_Sheet T) (m_Sheet_take_part T) G_Sheet_take_part (hr.mono (by decide)) b_Sheet_take_part .nil pass0 (pa_cons (pv 1) pa_nil)))) pss_nil)
        (pss_cons (ps_if (PW.pt (pw_or (pt_cmpR op_eq (pe_ix ix_list (pv 1) pe_int (fun _ _ => rfl)) pe_str (nomark _)) (pw_or1 (pt_cmpR op_eq (pe_ix ix_list (pv 1) pe_int (fun _ _ => rfl)) pe_str (nomark _))))) (pss_one (ps_ret (pe_meth (pv 0) (cls_Sheet T) (m_Sheet_take_telling T) G_Sheet_take_telling (hr.mono (by decide)) b_Sheet_take_telling .nil pass0 (pa_cons (pv 1) pa_nil)))) pss_nil)
        (pss_one (ps_ret pe_bl))))), ?_⟩
    rcases hk with ⟨hp, rfl, k⟩ | ⟨hp, hpp, ⟨q, rfl⟩, k⟩ | ⟨z, zs, hp, hz, k⟩
    · have i0 : atI cueW 0 = some (.str "cue") := rfl
      unfold ShO at hs
      walk_at "wks"
      refine ⟨s, p, dx, pc, pp, rfl, hp, hs, fun q H1 m1 h1 => ?_⟩
      exact k q H1 m1 h1
    · have i0 : atI partW 0 = some (.str "part") := rfl
      unfold ShO at hs
      walk_at "wks"
      refine ⟨s, p, dx, pc, pp, q, rfl, hp, hs, hpp, fun t H1 m1 h1 => ?_⟩
      exact k t H1 m1 h1
    · have i0 : atI (V.str z :: zs) 0 = some (.str z) := atI_nat (j := 0) rfl
      unfold badW at hz
      rw [Bool.and_eq_true, Bool.and_eq_true, Bool.and_eq_true, decide_eq_true_eq, decide_eq_true_eq, decide_eq_true_eq, decide_eq_true_eq] at hz
      obtain ⟨z1, z2, z3, z4⟩ := hz
      unfold ShO at hs
      walk_at "wks"
      refine iteDF (fun e => z1 (V.str.inj e)) ?_
      walk_at "wks"
      refine iteDF (fun e => z2 (V.str.inj e)) ?_
      walk_at "wks"
      refine iteDF (fun e => z3 (V.str.inj e)) ?_
      walk_at "wks"
      refine iteDF (fun e => z4 (V.str.inj e)) ?_
      walk_at "wks"
      exact k
/-! ### what the reader refuses -/
/-- the rows of a text that is read, and the first one that is wrong -/
structure Wrong (x : Str) (rs : List Str) (r : Nat) : Prop where
  sp : Txt.split x "\n" = rs
  lx : x.length ≤ 1000
  nx : x ≠ ""
  ok0 : 0 < r → rs[0]? = some ("cue 5" : Str)
  ok1 : 1 < r → rs[1]? = some ("part 0 0 0" : Str)
  le : r ≤ 2 ∧ r ≤ rs.length
  bad : ∀ y, rs[r]? = some y → ∃ z zs, Txt.split y " " = z :: zs ∧ badW z = true
  fin : r = rs.length → r = 1
  lens : ∀ y ∈ rs, y.length ≤ 1000
def BadText (v : V) (r : Int) : Prop := (v = .non ∧ r = 0) ∨ (v = .int 7 ∧ r = 0) ∨ ∃ (x : Str) (rs : List Str) (n : Nat), v = .str x ∧ r = n ∧ Wrong x rs n
theorem wrong1 : Wrong "cue 5\n part" ["cue 5", " part"] 1 := ⟨by decide +kernel, by decide +kernel, by decide +kernel, fun _ => rfl, fun h => absurd h (by decide), by decide, fun y h => by
  cases h
  exact ⟨"", ["part"], by decide +kernel, by decide +kernel⟩, fun h => absurd h (by decide), by decide +kernel⟩
theorem wrong2 : Wrong "cue 5" ["cue 5"] 1 := ⟨by decide +kernel, by decide +kernel, by decide +kernel, fun _ => rfl, fun h => absurd h (by decide), by decide, fun y h => (by cases h), fun _ => rfl, by decide +kernel⟩
theorem wrong3 : Wrong "x" ["x"] 0 := ⟨by decide +kernel, by decide +kernel, by decide +kernel, fun h => absurd h (by decide), fun h => absurd h (by decide), by decide, fun y h => by
  cases h
  exact ⟨"x", [], by decide +kernel, by decide +kernel⟩, fun h => absurd h (by decide), by decide +kernel⟩
theorem wrong4 : Wrong "cue 5\npart 0 0 0\n" ["cue 5", "part 0 0 0", ""] 2 := ⟨by decide +kernel, by decide +kernel, by decide +kernel, fun _ => rfl, fun _ => rfl, by decide, fun y h => by
  cases h
  exact ⟨"", [], by decide +kernel, by decide +kernel⟩, fun h => absurd h (by decide), by decide +kernel⟩
theorem split_cue : (Txt.split "cue 5" " ").map V.str = cueW := by
  rw [show Txt.split "cue 5" " " = [("cue" : Str), "5"] by decide +kernel]
  rfl
theorem split_part : (Txt.split "part 0 0 0" " ").map V.str = partW := by
  rw [show Txt.split "part 0 0 0" " " = [("part" : Str), "0", "0", "0"] by decide +kernel]
  rfl
def NoTextR (K : PySem.W.Frag) (H : Hp) (E : XK) (r : Int) : Prop := ∀ (d : Addr) H', Same H H' → H' d = some (.xd [("row", .int r)]) → E (.ref (cNT K)) (some d) H'
theorem noText_raised2 {K : PySem.W.Frag} {H : Hp} {E : XK} {w : V} {r : Int} (k : NoTextR K H E r) : ∀ a, H a = none → spNoText K (.ref a :: ([w, .int r] ++ [])) (upd H a (exo a (cNT K) none))
    (fun v H2 => v = .non ∧ ∃ (d : Addr) (fs : List (Str × V)), H2 a = some (exo a (cNT K) (some d)) ∧ H2 d = some (exd d fs) ∧ H d = none ∧ E (.ref (cNT K)) (some d) (upd (del H2 a) d (.xd fs))) (fun _ _ _ => False) := by
  intro a ha
  refine ⟨a, w, r, rfl, upd_same, fun d hd ne => ⟨rfl, d, _, upd_same, by rw [upd_ne ne, upd_same], ?_, ?_⟩⟩
  · rw [upd_ne ne] at hd
    exact hd
  · rw [upd_ne ne] at hd
    exact k d _ (raised_same ha hd) upd_same
theorem NoTextR.on {K : PySem.W.Frag} {H H' : Hp} {E : XK} {r : Int} (h : NoTextR K H E r) (s : Same H H') : NoTextR K H' E r := fun d H2 s2 e => h d H2 (s.trans s2) e
def spRead (K : PySem.W.Frag) : Sp := fun vs H Q E => ∃ v : V, vs = [v] ∧ ((v = .str "" ∧ ∀ (q : Addr) H', Same H H' → L2.Fr H q → H' q = some (.lst []) → Q (.ref q) H') ∨ (∃ r, BadText v r ∧ NoTextR K H E r))
theorem ok_read (T : Txt K mg) : ∃ fd, FnOk P w K mg base (L2.CX P w) 8 (He.fAd K ("read", none)) fd ["text"] (spRead K) ∧ FunD K "read" "read" (defArgs s_read) (defBody s_read) (defScope s_read) [] [] (He.fAd K ("read", none)) fd := by
  obtain ⟨fd, F⟩ := T.c.def_ 21 (d := d_read) rfl
  obtain ⟨fd_Sheet_init, G_Sheet_init, F_Sheet_init⟩ := ok_Sheet_init (P := P) (w := w) (base := base) T
  have kp_Sheet_init := F_Sheet_init.kp
  have b_Sheet_init : Binds K fd_Sheet_init ["self"] [] := FunD.bindsN F_Sheet_init (fun _ _ _ _ _ _ us hl => match us, hl with | [_], _ => rfl)
  obtain ⟨fd_NoText_init, G_NoText_init, F_NoText_init⟩ := ok_NoText_init (P := P) (w := w) (base := base) T
  have kp_NoText_init := F_NoText_init.kp
  obtain ⟨d0_NoText_init, v0_NoText_init, b0_NoText_init⟩ : ∃ ds, Vals ([V.int 0].drop 1) ds ∧ Binds K fd_NoText_init ["self", "words", "row"] ds := F_NoText_init.binds1 3 1 (by decide) rfl (fun _ _ _ _ _ _ _ us its h1 h2 => match us, its, h1, h2 with | [_, _, _], [_], _, _ => ⟨_, rfl, rfl⟩)
  obtain ⟨fd_Sheet_ended, G_Sheet_ended, F_Sheet_ended⟩ := ok_Sheet_ended (P := P) (w := w) (base := base) T
  have kp_Sheet_ended := F_Sheet_ended.kp
  have b_Sheet_ended : Binds K fd_Sheet_ended ["self"] [] := FunD.bindsN F_Sheet_ended (fun _ _ _ _ _ _ us hl => match us, hl with | [_], _ => rfl)
  obtain ⟨fd_Sheet_take, G_Sheet_take, F_Sheet_take⟩ := ok_Sheet_take (P := P) (w := w) (base := base) T
  have kp_Sheet_take := F_Sheet_take.kp
  have b_Sheet_take : Binds K fd_Sheet_take ["self", "words"] [] := FunD.bindsN F_Sheet_take (fun _ _ _ _ _ _ us hl => match us, hl with | [_, _], _ => rfl)
  have cl_Sheet := cls_Sheet T
  have na_Sheet_cues := na_Sheet_cues T
  refine ⟨fd, F.ok sc_read (by walk_at "g94len") (fun cdv A outer st H vs Q E hr h => ?_), F⟩
  · obtain ⟨v, rfl, ⟨rfl, k⟩ | ⟨r, hb, k⟩⟩ := h
    · refine ⟨_, (pss_cons (ps_if (pt_not (pt_val (pe_callB call_isi (by rfl) (free_isinstance T) (by decide +kernel) (pa_cons (pv 0) (pa_cons (pe_bltn (v := .ty "str") (by rfl) (free_str T) (by decide +kernel) rfl) pa_nil))))) (pss_one (ps_raise rfl (takes_of rfl rfl rfl rfl) (pmk_oex (oex_NoText T) (ini_NoText T) (inf_NoText T) G_NoText_init (hr.mono (by decide)) b0_NoText_init v0_NoText_init pass0 rfl (glo_NoText T) (pa_cons pe_str (pa_cons pe_int pa_nil))))) pss_nil)
        (pss_cons (ps_if (pt_cmpR op_eq (pv 0) pe_str (nomark _)) (pss_one (ps_ret (pe_lstK pa_nil))) pss_nil)
        (pss_cons (ps_set (i := 1) sc_read.nd rfl (Or.inl rfl) (pe_bm PySem.F.plainAttrs_str PySem.F.slot_str_split PySem.F.type_str_split mt_splitK (pv 0) (pa_cons pe_str pa_nil)))
        (pss_cons (ps_set (i := 2) sc_read.nd rfl (Or.inl rfl) (pe_make0K (mk_Sheet T) G_Sheet_init (hr.mono (by decide)) rfl (glo_Sheet T) b_Sheet_init .nil pass0))
        (pss_cons (ps_for (passes_of rfl) rfl (pi_enum (by rfl) (free_enumerate T) (pa_cons (pv 1) pa_nil)) (pg_tup rfl (pgs_cons (pg_name (i := 3) sc_read.nd rfl (Or.inl rfl)) (pgs_cons (pg_name (i := 4) sc_read.nd rfl (Or.inl rfl)) pgs_nil))) (pss_one (ps_if (pt_not (pt_val (pe_meth (pv 2) (cls_Sheet T) (m_Sheet_take T) G_Sheet_take (hr.mono (by decide)) b_Sheet_take .nil pass0 (pa_cons (pe_bm PySem.F.plainAttrs_str PySem.F.slot_str_split PySem.F.type_str_split mt_splitK (pv 4) (pa_cons pe_str pa_nil)) pa_nil)))) (pss_one (ps_raise rfl (takes_of rfl rfl rfl rfl) (pmk_oex (oex_NoText T) (ini_NoText T) (inf_NoText T) G_NoText_init (hr.mono (by decide)) b0_NoText_init v0_NoText_init pass0 rfl (glo_NoText T) (pa_cons pe_str (pa_cons (pv 3) pa_nil))))) pss_nil)))
        (pss_cons (ps_if (pt_not (pt_val (pe_meth0 (pv 2) (cls_Sheet T) (m_Sheet_ended T) G_Sheet_ended (hr.mono (by decide)) b_Sheet_ended .nil pass0))) (pss_one (ps_raise rfl (takes_of rfl rfl rfl rfl) (pmk_oex (oex_NoText T) (ini_NoText T) (inf_NoText T) G_NoText_init (hr.mono (by decide)) b0_NoText_init v0_NoText_init pass0 rfl (glo_NoText T) (pa_cons pe_str (pa_cons (pe_callB call_len_seq (by rfl) (free_len T) (by decide +kernel) (pa_cons (pv 1) pa_nil)) pa_nil))))) pss_nil)
        (pss_one (ps_ret (pe_fld (pv 2) rfl))))))))), ?_⟩
      walk_at "wks"
      rename_i q H1 f1 s1 h1
      exact k q H1 s1 f1 h1
    · refine ⟨_, (pss_cons (ps_if (pt_not (pt_val (pe_callB call_isi (by rfl) (free_isinstance T) (by decide +kernel) (pa_cons (pv 0) (pa_cons (pe_bltn (v := .ty "str") (by rfl) (free_str T) (by decide +kernel) rfl) pa_nil))))) (pss_one (ps_raise rfl (takes_of rfl rfl rfl rfl) (pmk_oex (oex_NoText T) (ini_NoText T) (inf_NoText T) G_NoText_init (hr.mono (by decide)) b0_NoText_init v0_NoText_init pass0 rfl (glo_NoText T) (pa_cons pe_str (pa_cons pe_int pa_nil))))) pss_nil)
        (pss_cons (ps_if (pt_cmpR op_eq (pv 0) pe_str (nomark _)) (pss_one (ps_ret (pe_lstK pa_nil))) pss_nil)
        (pss_cons (ps_set (i := 1) sc_read.nd rfl (Or.inl rfl) (pe_bm PySem.F.plainAttrs_str PySem.F.slot_str_split PySem.F.type_str_split mt_splitK (pv 0) (pa_cons pe_str pa_nil)))
        (pss_cons (ps_set (i := 2) sc_read.nd rfl (Or.inl rfl) (pe_make0K (mk_Sheet T) G_Sheet_init (hr.mono (by decide)) rfl (glo_Sheet T) b_Sheet_init .nil pass0))
        (pss_cons (ps_for (passes_of rfl) rfl (pi_enum (by rfl) (free_enumerate T) (pa_cons (pv 1) pa_nil)) (pg_tup rfl (pgs_cons (pg_name (i := 3) sc_read.nd rfl (Or.inl rfl)) (pgs_cons (pg_name (i := 4) sc_read.nd rfl (Or.inl rfl)) pgs_nil))) (pss_one (ps_if (pt_not (pt_val (pe_meth (pv 2) (cls_Sheet T) (m_Sheet_take T) G_Sheet_take (hr.mono (by decide)) b_Sheet_take .nil pass0 (pa_cons (pe_bm PySem.F.plainAttrs_str PySem.F.slot_str_split PySem.F.type_str_split mt_splitK (pv 4) (pa_cons pe_str pa_nil)) pa_nil)))) (pss_one (ps_raise rfl (takes_of rfl rfl rfl rfl) (pmk_oex (oex_NoText T) (ini_NoText T) (inf_NoText T) G_NoText_init (hr.mono (by decide)) b0_NoText_init v0_NoText_init pass0 rfl (glo_NoText T) (pa_cons pe_str (pa_cons (pv 3) pa_nil))))) pss_nil)))
        (pss_cons (ps_if (pt_not (pt_val (pe_meth0 (pv 2) (cls_Sheet T) (m_Sheet_ended T) G_Sheet_ended (hr.mono (by decide)) b_Sheet_ended .nil pass0))) (pss_one (ps_raise rfl (takes_of rfl rfl rfl rfl) (pmk_oex (oex_NoText T) (ini_NoText T) (inf_NoText T) G_NoText_init (hr.mono (by decide)) b0_NoText_init v0_NoText_init pass0 rfl (glo_NoText T) (pa_cons pe_str (pa_cons (pe_callB call_len_seq (by rfl) (free_len T) (by decide +kernel) (pa_cons (pv 1) pa_nil)) pa_nil))))) pss_nil)
        (pss_one (ps_ret (pe_fld (pv 2) rfl))))))))), ?_⟩
      rcases hb with ⟨rfl, rfl⟩ | ⟨rfl, rfl⟩ | ⟨x, rs, n, rfl, rfl, wr⟩
      · walk_at "wks"
        exact ⟨Nat.le_of_ble_eq_true rfl, noText_raised2 k⟩
      · walk_at "wks"
        exact ⟨Nat.le_of_ble_eq_true rfl, noText_raised2 k⟩
      · walk_at "wks"
        refine iteDF (fun e => wr.nx (V.str.inj e)) ?_
        have z0 : x.length + 2 ≤ sizeLine := small_size (by have := wr.lx; omega)
        walk_at "wks"
        rename_i pR H1 f1 s1 h1
        rw [show Txt.split x (Str.ofString "\n") = rs from wr.sp] at h1
        intro s dx H2 f2 s2 h2
        refine ⟨s, dx, rfl, h2, fun pc pp H3 m3 h3 hpp fpp => ⟨rfl, ?_⟩⟩
        have fs : L2.Fr H s := Fr.back f2 s1
        have fp : L2.Fr H pp := Fr.back fpp (s1.trans s2)
        have s03 : Same H H3 := (s1.trans s2).but m3 fs
        have nRs : pR ≠ s := neF f2 h1
        have nRp : pR ≠ pp := neF fpp (s2 _ _ h1)
        have nsp : s ≠ pp := neF fpp h2
        have hR3 : H3 pR = some (.lst (rs.map V.str)) := m3 _ _ nRs (s2 _ _ h1)
        have hle := wr.le
        walk_at "wks"
        refine for_enumK (xs := rs.map V.str) (fun i σ' H' => ∃ v3 v4, σ' = [some (.str x), some (.ref pR), some (.ref s), v3, v4] ∧ Same H H' ∧ H' pR = some (.lst (rs.map V.str)) ∧ i ≤ n ∧
          ((i = 0 ∧ H' s = some (ShO K dx pc .non pp) ∧ H' pp = some (.lst [])) ∨ (i = 1 ∧ ∃ q, H' s = some (ShO K dx pc (.ref q) pp) ∧ H' pp = some (.lst [])) ∨ (i = 2 ∧ ∃ q, H' s = some (ShO K dx pc (.ref q) pp))))
          ⟨_, _, rfl, s03, hR3, Nat.zero_le _, .inl ⟨rfl, h3, hpp⟩⟩ (fun i σ' H' _ ⟨_, _, _, _, q, _⟩ => .of q) ?_ ?_
        · rintro i y T σ' H4 H5 hy ⟨v3, v4, rfl, s4, hR4, hin, hst⟩ fT sT hT
          rw [List.getElem?_map, Option.map_eq_some_iff] at hy
          obtain ⟨z, hz, rfl⟩ := hy
          have zl : z.length + 2 ≤ sizeLine := small_size (by have := wr.lens z (List.mem_of_getElem? hz); omega)
          have lk : ∀ hd : V, List.lookup (Str.ofString "take") [("cues", V.ref pc), ("head", hd), ("parts", V.ref pp)] = none := fun hd => by walk_at "lk"
          by_cases hb : i = n
          · subst hb
            obtain ⟨hd, hs⟩ : ∃ hd, H4 s = some (ShO K dx pc hd pp) := by
              rcases hst with ⟨_, q, _⟩ | ⟨_, _, q, _⟩ | ⟨_, _, q⟩ <;> exact ⟨_, q⟩
            have hs5 := sT _ _ hs
            obtain ⟨z', zs, ez, hbad⟩ := wr.bad z hz
            walk_at "wks"
            rename_i pw H6 f6 s6 h6
            rw [show Txt.split z (Str.ofString " ") = z' :: zs from ez] at h6
            refine ⟨s, pw, dx, pc, pp, hd, rfl, s6 _ _ hs5, .inr (.inr ⟨z', zs.map V.str, h6, hbad, ?_⟩)⟩
            walk_at "wks"
            exact ⟨Nat.le_of_ble_eq_true rfl, noText_raised2 (k.on ((s4.trans sT).trans s6))⟩
          · rcases hst with ⟨rfl, hs, hp0⟩ | ⟨rfl, q, hs, hp0⟩ | ⟨rfl, _⟩
            · have hs5 := sT _ _ hs
              have ez := wr.ok0 (by omega)
              rw [hz] at ez
              obtain rfl := Option.some.inj ez
              walk_at "wks"
              rename_i pw H6 f6 s6 h6
              rw [show List.map V.str (Txt.split (Str.ofString "cue 5") (Str.ofString " ")) = cueW from split_cue] at h6
              refine ⟨s, pw, dx, pc, pp, .non, rfl, s6 _ _ hs5, .inl ⟨h6, rfl, fun q H7 m7 h7 => ?_⟩⟩
              have s46 := (s4.trans sT).trans s6
              have s26 := sT.trans s6
              walk_at "wks"
              exact ⟨s46.but m7 fs, m7 _ _ nRs (s26 _ _ hR4), by omega, .inr (.inl ⟨rfl, q, h7, m7 _ _ nsp.symm (s26 _ _ hp0)⟩)⟩
            · have hs5 := sT _ _ hs
              have ez := wr.ok1 (by omega)
              rw [hz] at ez
              obtain rfl := Option.some.inj ez
              walk_at "wks"
              rename_i pw H6 f6 s6 h6
              rw [show List.map V.str (Txt.split (Str.ofString "part 0 0 0") (Str.ofString " ")) = partW from split_part] at h6
              have s46 := (s4.trans sT).trans s6
              have s26 := sT.trans s6
              refine ⟨s, pw, dx, pc, pp, .ref q, rfl, s6 _ _ hs5, .inr (.inl ⟨h6, s26 _ _ hp0, ⟨q, rfl⟩, fun t H7 m7 h7 => ?_⟩)⟩
              walk_at "wks"
              exact ⟨s46.but m7 fp, m7 _ _ nRp (s26 _ _ hR4), by omega, .inr (.inr ⟨rfl, q, m7 _ _ nsp (s26 _ _ hs)⟩)⟩
            · omega
        · rintro σ' H4 ⟨v3, v4, rfl, s4, hR4, hin, hst⟩
          rw [List.length_map] at hin hst
          have n1 : n = rs.length := by omega
          have e1 := wr.fin n1
          rcases hst with ⟨e, _⟩ | ⟨_, q, hs, hp0⟩ | ⟨e, _⟩
          · omega
          · have lk : List.lookup (Str.ofString "ended") [("cues", V.ref pc), ("head", V.ref q), ("parts", V.ref pp)] = none := by walk_at "lk"
            walk_at "wks"
            refine ⟨s, dx, pc, pp, .ref q, rfl, hs, .inr ⟨q, rfl, hp0, fun H5 s5 => ?_⟩⟩
            have hR5 := s5 _ _ hR4
            have kr : NoTextR K H5 E ((rs.map V.str).length : Nat) := by
              rw [List.length_map, ← n1]
              exact k.on (s4.trans s5)
            walk_at "wks"
            exact ⟨Nat.le_of_ble_eq_true rfl, noText_raised2 kr⟩
          · omega
/-! ### the desk -/
abbrev cDk (K : PySem.W.Frag) : Addr := He.ga K "Desk"
def DkO (K : PySem.W.Frag) (dx pb ph pl : Addr) : HO := .ins (cDk K) dx [("begin", .ref pb), ("heard", .ref ph), ("lasts", .ref pl)]
def spDeskInit (K : PySem.W.Frag) : Sp := fun vs H Q E => ∃ (d dx : Addr) (v : V), vs = [.ref d, v] ∧ H d = some (.ins (cDk K) dx []) ∧
  ((v = .str "" ∧ ∀ (pb ph pl : Addr) H', But d H H' → H' d = some (DkO K dx pb ph pl) → H' ph = some (.lst []) → H' pl = some (.dK []) → L2.Fr H ph → L2.Fr H pl → Q .non H') ∨ (∃ r, BadText v r ∧ NoTextR K H E r))
theorem ok_Desk_init (T : Txt K mg) : ∃ fd, FnOk P w K mg base (L2.CX P w) 9 (He.fAd K ("Desk", some "__init__")) fd ["self", "text"] (spDeskInit K) ∧ FunD K "__init__" "Desk.__init__" (defArgs s_Desk_init) (defBody s_Desk_init) (defScope s_Desk_init) [V.str ""] [] (He.fAd K ("Desk", some "__init__")) fd := by
  obtain ⟨fd, F⟩ := T.c.def_ 22 (d := d_Desk_init) rfl
  obtain ⟨fd_read, G_read, F_read⟩ := ok_read (P := P) (w := w) (base := base) T
  have kp_read := F_read.kp
  have b_read : Binds K fd_read ["text"] [] := FunD.bindsN F_read (fun _ _ _ _ _ _ us hl => match us, hl with | [_], _ => rfl)
  have cl_Desk := cls_Desk T
  have na_Desk_begin := na_Desk_begin T
  have na_Desk_heard := na_Desk_heard T
  have na_Desk_lasts := na_Desk_lasts T
  refine ⟨fd, F.ok sc_Desk_init (by walk_at "g94len") (fun cdv A outer st H vs Q E hr h => ?_), F⟩
  · obtain ⟨d, dx, v, rfl, hd, hk⟩ := h
    refine ⟨_, (pss_cons (ps_fldK (pv 0) (pe_call G_read (hr.mono (by decide)) rfl (glo_read T) kp_read b_read .nil (passes_call (takes_of rfl rfl rfl rfl) (fun _ _ _ _ h => h)) (pa_cons (pv 1) pa_nil)) rfl)
        (pss_cons (ps_fldK (pv 0) (pe_lstK pa_nil) rfl)
        (pss_one (ps_fldK (pv 0) pe_dnewKK rfl)))), ?_⟩
    rcases hk with ⟨rfl, k⟩ | hk
    · walk_at "wks"
      refine .inl ⟨rfl, fun q H1 s1 f1 h1 => ?_⟩
      have hd1 := s1 _ _ hd
      walk_at "wks"
      rename_i H2 m2 h2 ph H3 f3 s3 h3 H4 m4 h4 pl H5 f5 s5 h5 H6 m6 h6
      have m02 : But d H H2 := s1.thenBut m2
      have m04 : But d H H4 := (m02.same s3).trans m4
      have n1 := neF2 f3 h2
      have n2 := neF2 f5 h4
      exact k q ph pl H6 ((m04.same s5).trans m6) h6 (m6 _ _ n1 (s5 _ _ (m4 _ _ n1 h3))) (m6 _ _ n2 h5) (Fr.backBut f3 m02 h2) (Fr.backBut f5 m04 h4)
    · walk_at "wks"
      exact .inr hk
def Lasts (kvs : List (Key × V)) (f : Str → Int) (n : Nat) : Prop := kvs.length ≤ n ∧ ∀ h : Str, (valV kvs (.inr h)).getD (.int 0) = .int (f h)
def setF (f : Str → Int) (h : Str) (t : Int) : Str → Int := fun x => if x = h then t else f x
theorem Lasts.put {kvs : List (Key × V)} {f : Str → Int} {n : Nat} (L : Lasts kvs f n) (h : Str) (t : Int) : Lasts (putK kvs (.inr h) (.int t)) (setF f h t) (n + 1) := by
  refine ⟨Nat.le_trans (by
    unfold putK
    split
    · rw [List.length_map]
      exact Nat.le_succ _
    · rw [List.length_append]
      exact Nat.le_refl _) (Nat.succ_le_succ L.1), fun x => ?_⟩
  rw [valV_put]
  unfold setF
  by_cases e : x = h
  · rw [if_pos (congrArg Sum.inr e), if_pos e]
    rfl
  · rw [if_neg (fun q => e (Sum.inr.inj q)), if_neg e]
    exact L.2 x
theorem Lasts.nil : Lasts [] (fun _ => 0) 0 := ⟨Nat.le_refl _, fun _ => rfl⟩
/-- a desk: what it heard, and when each hand spoke last -/
structure Dk (K : PySem.W.Frag) (H : Hp) (d dx pb ph pl : Addr) (es : List (Addr × Row4)) (f : Str → Int) (n : Nat) : Prop where
  hd : H d = some (DkO K dx pb ph pl)
  hh : H ph = some (.lst (es.map fun b => V.ref b.1))
  he : ∀ b ∈ es, H b.1 = some (.tup b.2.vs)
  hl : ∃ kvs, H pl = some (.dK kvs) ∧ Lasts kvs f n
  len : es.length = n
theorem Dk.same {K : PySem.W.Frag} {H H' : Hp} {d dx pb ph pl : Addr} {es : List (Addr × Row4)} {f : Str → Int} {n : Nat} (D : Dk K H d dx pb ph pl es f n) (s : Same H H') : Dk K H' d dx pb ph pl es f n :=
  ⟨s _ _ D.hd, s _ _ D.hh, fun b hb => s _ _ (D.he b hb), D.hl.imp fun _ q => ⟨s _ _ q.1, q.2⟩, D.len⟩
def ButM (M : List Addr) (H H' : Hp) : Prop := ∀ b u, b ∉ M → H b = some u → H' b = some u
theorem ButM.refl {M : List Addr} {H : Hp} : ButM M H H := fun _ _ _ e => e
theorem ButM.trans {M : List Addr} {H H1 H' : Hp} (a : ButM M H H1) (b : ButM M H1 H') : ButM M H H' := fun x u n e => b x u n (a x u n e)
theorem ButM.ofSame {M : List Addr} {H H' : Hp} (s : Same H H') : ButM M H H' := fun x u _ e => s x u e
theorem ButM.ofBut {M : List Addr} {H H' : Hp} {a : Addr} (m : But a H H') (h : a ∈ M) : ButM M H H' := fun x u n e => m x u (fun q => n (q ▸ h)) e
theorem ButM.mono {M N : List Addr} {H H' : Hp} (m : ButM M H H') (h : ∀ a ∈ M, a ∈ N) : ButM N H H' := fun x u n e => m x u (fun q => n (h x q)) e
def LateE (K : PySem.W.Frag) (H : Hp) (E : XK) : Prop := ∀ H', Same H H' → E (.ref (He.ga K "Late")) none H'
theorem LateE.on {K : PySem.W.Frag} {H H' : Hp} {E : XK} (h : LateE K H E) (s : Same H H') : LateE K H' E := fun H2 s2 => h H2 (s.trans s2)
def spHear (K : PySem.W.Frag) : Sp := fun vs H Q E => ∃ (d dx pb ph pl : Addr) (v : V) (es : List (Addr × Row4)) (f : Str → Int) (n : Nat), vs = [.ref d, v] ∧ Dk K H d dx pb ph pl es f n ∧ n ≤ 100 ∧
  (((IsA K H v "str" false ∨ ∃ l : List Nat, v = .str (SX.S l) ∧ Bad l ∧ l.length ≤ 1000) ∧ NoRowE K H E) ∨
   ∃ (l hand : List Nat) (tick : Int) (w : Str) (ts : List Th), v = .str (SX.S l) ∧ l.length ≤ 1000 ∧ RowIs (FX.words 32 l) hand tick w ts ∧
    ((tick < f (SX.S hand) ∧ LateE K H E) ∨ (f (SX.S hand) ≤ tick ∧ ∀ (x : Addr) H', ButM [ph, pl] H H' → L2.Fr H x → Dk K H' d dx pb ph pl (es ++ [(x, ⟨tick, SX.S hand, n, SX.S l⟩)]) (setF f (SX.S hand) tick) (n + 1) → Q .non H')))
theorem refuses {K : PySem.W.Frag} {H : Hp} {v : V} {A : List Nat → Prop} {E : XK} (h : IsA K H v "str" false ∨ ∃ l : List Nat, v = .str (SX.S l) ∧ Bad l ∧ l.length ≤ 1000) (k : NoRowE K H E) : (IsA K H v "str" false ∧ NoRowE K H E) ∨ ∃ l : List Nat, v = .str (SX.S l) ∧ l.length ≤ 1000 ∧ (A l ∨ (Bad l ∧ NoRowE K H E)) := by
  rcases h with h | ⟨l, e, hb, hl⟩
  · exact .inl ⟨h, k⟩
  · exact .inr ⟨l, e, hl, .inr ⟨hb, k⟩⟩
theorem ok_Desk_hear (T : Txt K mg) (TB : L2.FormsD K w (He.ga K "FORMS") formsKeys) : ∃ fd, FnOk P w K mg base (L2.CX P w) 8 (He.fAd K ("Desk", some "hear")) fd ["self", "row"] (spHear K) ∧ FunD K "hear" "Desk.hear" (defArgs s_Desk_hear) (defBody s_Desk_hear) (defScope s_Desk_hear) [] [] (He.fAd K ("Desk", some "hear")) fd := by
  obtain ⟨fd, F⟩ := T.c.def_ 23 (d := d_Desk_hear) rfl
  obtain ⟨fd_row_of, G_row_of, F_row_of⟩ := ok_row_of (P := P) (w := w) (base := base) T TB
  have kp_row_of := F_row_of.kp
  have b_row_of : Binds K fd_row_of ["row"] [] := FunD.bindsN F_row_of (fun _ _ _ _ _ _ us hl => match us, hl with | [_], _ => rfl)
  have cl_Desk := cls_Desk T
  have na_Desk_heard := na_Desk_heard T
  have na_Desk_lasts := na_Desk_lasts T
  refine ⟨fd, F.ok sc_Desk_hear (by walk_at "g94len") (fun cdv A outer st H vs Q E hr h => ?_), F⟩
  · obtain ⟨d, dx, pb, ph, pl, v, es, f, n, rfl, D, hn, hk⟩ := h
    refine ⟨_, (pss_cons (ps_asg (pe_call G_row_of (hr.mono (by decide)) rfl (glo_row_of T) kp_row_of b_row_of .nil (passes_call (takes_of rfl rfl rfl rfl) (fun _ _ _ _ h => h)) (pa_cons (pv 1) pa_nil)) (pg_tup rfl (pgs_cons (pg_name (i := 2) sc_Desk_hear.nd rfl (Or.inl rfl)) (pgs_cons (pg_name (i := 3) sc_Desk_hear.nd rfl (Or.inl rfl)) (pgs_cons (pg_name (i := 4) sc_Desk_hear.nd rfl (Or.inl rfl)) (pgs_cons (pg_name (i := 5) sc_Desk_hear.nd rfl (Or.inl rfl)) pgs_nil))))))
        (pss_cons (ps_if (pt_cmpR op_lt (pv 3) (pe_dget2K (hu_of hr) (pe_fld (pv 0) rfl) (pv 2) pe_int ⟨rfl, rfl, rfl, rfl⟩) (nomark _)) (pss_one (ps_raise rfl (takes_of rfl rfl rfl rfl) (pmk_own PySem.F.excBase_ValueError (exc_Late T).1 (glo_Late T) (exc_Late T).2.1 (raises_own (exc_Late T).2.2.1 (exc_Late T).2.2.2) rfl))) pss_nil)
        (pss_cons (ps_dputKK (hu_of hr) (pe_fld (pv 0) rfl) (pv 2) (pv 3) rfl)
        (pss_one (ps_expr (pe_bm PySem.F.plainAttrs_list PySem.F.slot_list_append PySem.F.type_list_append mt_appendK (pe_fld (pv 0) rfl) (pa_cons (pe_tupK (pa_cons (pv 3) (pa_cons (pv 2) (pa_cons (pe_callB call_len_seq (by rfl) (free_len T) (by decide +kernel) (pa_cons (pe_fld (pv 0) rfl) pa_nil)) (pa_cons (pv 1) pa_nil))))) pa_nil))))))), ?_⟩
    rcases hk with ⟨hb, k⟩ | ⟨l, hand, tick, w, ts, rfl, hl, hri, hk⟩
    · walk_at "wk"
      walk_at "wk"
      exact refuses hb k
    · walk_at "wk"
      walk_at "wk"
      refine .inr ⟨l, rfl, hl, .inl ⟨hand, tick, w, ts, hri, fun p q H1 s1 f1 hp hq => ?_⟩⟩
      have D1 := D.same s1
      have hd1 := D1.hd
      unfold DkO at hd1
      have hh1 := D1.hh
      obtain ⟨kvs, hl1, hL⟩ := D1.hl
      have nd : d ≠ pl := ne_of hd1 hl1 (by intro z; cases z)
      have nd2 : d ≠ ph := ne_of hd1 hh1 (by intro z; cases z)
      have nh : ph ≠ pl := ne_of hh1 hl1 (by intro z; cases z)
      walk_at "wks"
      refine ⟨.inr (SX.S hand), rfl, hl1, ?_⟩
      rw [hL.2]
      walk_at "wks"
      walk_at "ri" <;> intro c1
      · rcases hk with ⟨_, k⟩ | ⟨q, _⟩
        · exact k _ s1
        · omega
      rcases hk with ⟨q, _⟩ | ⟨_, k⟩
      · omega
      walk_at "wks"
      have kl := hL.1
      refine ⟨pl, kvs, .inr (SX.S hand), rfl, rfl, hl1, szlt (by omega), fun H2 m2 h2 => ?_⟩
      have hd2 := m2 _ _ nd hd1
      have hh2 := m2 _ _ nh hh1
      have el := D1.len
      walk_at "wks"
      rename_i x H3 f3 s3 h3 H4 m4 h4
      have fx1 : L2.Fr H1 x := Fr.backBut f3 m2 h2
      rw [List.length_map, el] at h3
      have nx := neF2 f3 hh2
      refine k x H4 ?_ (Fr.back fx1 s1) ⟨m4 _ _ nd2 (s3 _ _ hd2), ?_, fun b hb => ?_, ⟨_, m4 _ _ nh.symm (s3 _ _ h2), hL.put _ _⟩, ?_⟩
      · exact (ButM.ofSame s1).trans ((ButM.ofBut m2 (by simp)).trans ((ButM.ofSame s3).trans (ButM.ofBut m4 (by simp))))
      · rw [h4, List.map_append]
        rfl
      · rcases List.mem_append.mp hb with hb | hb
        · have e1 := D1.he b hb
          have n1 := ne_of e1 hl1 (by intro z; cases z)
          have n2 := ne_of e1 hh1 (by intro z; cases z)
          exact m4 _ _ n2 (s3 _ _ (m2 _ _ n1 e1))
        · rw [List.mem_singleton.mp hb]
          exact m4 _ _ nx h3
      · rw [List.length_append, el]
        rfl
def spRows (K : PySem.W.Frag) : Sp := fun vs H Q _ => ∃ (d dx pb ph pl : Addr) (es : List (Addr × Row4)) (f : Str → Int) (n : Nat), vs = [.ref d] ∧ Dk K H d dx pb ph pl es f n ∧ n ≤ 100 ∧
  ∀ (out : List (Addr × Row4)) (q : Addr) H', out.Perm es → out.Pairwise (fun x y => ¬ lt4 y.2 x.2) → Same H H' → L2.Fr H q → H' q = some (.lst (out.map fun b => V.str b.2.r)) → Q (.ref q) H'
theorem ok_Desk_rows (T : Txt K mg) : ∃ fd, FnOk P w K mg base CX0 1 (He.fAd K ("Desk", some "rows")) fd ["self"] (spRows K) ∧ FunD K "rows" "Desk.rows" (defArgs s_Desk_rows) (defBody s_Desk_rows) (defScope s_Desk_rows) [] [] (He.fAd K ("Desk", some "rows")) fd := by
  obtain ⟨fd, F⟩ := T.c.def_ 24 (d := d_Desk_rows) rfl
  have cl_Desk := cls_Desk T
  have na_Desk_heard := na_Desk_heard T
  refine ⟨fd, F.ok sc_Desk_rows (by walk_at "g94len") (fun cdv A outer st H vs Q E hr h => ?_), F⟩
  · obtain ⟨d, dx, pb, ph, pl, es, f, n, rfl, D, hn, k⟩ := h
    refine ⟨_, PSs.nox (pss_one (ps_ret (pe_lc (own := [("one", 1)]) (g := upG (gName 1)) rfl sc_Desk_rows.nd (pi_list (pe_callB (cr_sortQ hr.units) (by rfl) (free_sorted T) (by decide +kernel) (pa_cons (pe_fld (pv 0) rfl) pa_nil))) (blkOk_by (own := [("one", 1)]) (N := ["self", "one"]) (sc := defScope s_Desk_rows) (by decide +kernel)) (fun _ _ _ _ _ => (PG.up (pg_name (i := 1) sc_Desk_rows.nd rfl (Or.inl rfl)))) (fun _ _ _ _ _ => (PTs.up pts_nil)) (fun _ _ _ _ _ => (PE.up (pe_ix (show IxR _ (rIxT K) from ix_tup) (pv 1) pe_int (fun _ _ => rfl))))))), ?_⟩
    have hd := D.hd
    unfold DkO at hd
    have hh := D.hh
    walk_at "wks"
    refine ⟨D.he, fun out hperm hord ps H1 f1 s1 h1 => ?_⟩
    have ol : out.length ≤ 100 := by
      have := hperm.length_eq
      have := D.len
      omega
    refine ⟨ps, rfl, ⟨_, .of h1⟩, fun C hC => lcK_list (K := K) (a := ps) (xs := out.map fun b => V.ref b.1) hC (fun i H' => Same H1 H' ∧ H' C = some (.lst ((out.take i).map fun b => V.str b.2.r))) (fun H' f s h => ⟨s, h⟩) (fun i H' _ q => .of (q.1 _ _ h1)) ?_ ?_⟩
    · rintro i x H2 hx ⟨s2, h2⟩
      rw [List.getElem?_map, Option.map_eq_some_iff] at hx
      obtain ⟨b, hb, rfl⟩ := hx
      have e1 := s2 _ _ (s1 _ _ (D.he b (hperm.mem_iff.mp (List.mem_of_getElem? hb))))
      have e2 : atI b.2.vs 3 = some (.str b.2.r) := rfl
      walk_at "wks"
      refine ⟨_, h2, szlt (by rw [List.length_map, List.length_take]; omega), fun H3 m3 h3 => ⟨s2.but m3 hC, ?_⟩⟩
      rw [h3, List.take_add_one, hb, List.map_append]
      rfl
    · rintro H2 ⟨s2, h2⟩
      rw [List.length_map, List.take_length] at h2
      exact k out C H2 hperm hord (s1.trans s2) (Fr.back hC s1) h2
/-! ### the law's own rows -/
def spNum : Sp := fun vs H Q _ => ∃ c k : Int, vs = [.int c, .int k] ∧ 0 ≤ k ∧ k < 64 ∧ ∀ r : Int, 0 ≤ r → r < 1000000000000000000000000000000000000000000000000000000000000 → Q (.int r) H
theorem ok_l_number (T : Txt K mg) : ∃ fd, FnOk P w K mg base CX0 1 (He.fAd K ("_law_number", none)) fd ["_law_cell", "_law_k"] spNum ∧ FunD K "_law_number" "_law_number" (defArgs s_l_number) (defBody s_l_number) (defScope s_l_number) [] [] (He.fAd K ("_law_number", none)) fd := by
  obtain ⟨fd, F⟩ := T.c.def_ 26 (d := d_l_number) rfl
  refine ⟨fd, F.ok sc_l_number (by walk_at "g94len") (fun cdv A outer st H vs Q E hr h => ?_), F⟩
  · obtain ⟨c, i, rfl, i0, i1, k⟩ := h
    refine ⟨_, PSs.nox (pss_cons (ps_if (PW.pt (pw_and (pt_cmpR op_eq (pe_op op_mod (pv 0) pe_int) pe_int (nomark _)) (pw_and1 (pt_cmpR op_gt (pv 0) (pe_powC (v := 1000000000000) (by rfl) (by decide +kernel)) (nomark _))))) (pss_one (ps_ret (pe_op op_mod (pe_op op_fdiv (pv 0) pe_int) (pe_powC (v := 1000000000000000000000000000000000000000000000000000000000000) (by rfl) (by decide +kernel))))) pss_nil)
        (pss_one (ps_ret (pe_op op_mod (pe_op op_mul (pe_op op_add (pe_op op_mod (pv 0) (pe_powC (v := 1000000000000000000000000000000) (by rfl) (by decide +kernel))) pe_int) (pe_op op_add pe_int (pe_op op_mul (pe_op op_mul pe_int (pv 1)) (pv 1)))) pe_int)))), ?_⟩
    have hm : 0 ≤ i * i ∧ i * i ≤ 64 * 64 := ⟨Int.mul_nonneg i0 i0, Int.mul_le_mul (by omega) (by omega) i0 (by decide)⟩
    have hm2 : 7919 * i * i = 7919 * (i * i) := Int.mul_assoc _ _ _
    walk_at "wks"
    walk_at "ri" <;> intro c1
    · walk_at "wks"
      walk_at "ri" <;> intro c2
      · walk_at "wks"
        exact k _ (Int.emod_nonneg _ (by decide)) (Int.emod_lt_of_pos _ (by decide))
      · walk_at "wks"
        have h := Int.emod_lt_of_pos ((c % 1000000000000000000000000000000 + 1) * (48271 + 7919 * i * i)) (show (0 : Int) < 2147483629 by decide)
        exact k _ (Int.emod_nonneg _ (by decide)) (by omega)
    · walk_at "wks"
      have h := Int.emod_lt_of_pos ((c % 1000000000000000000000000000000 + 1) * (48271 + 7919 * i * i)) (show (0 : Int) < 2147483629 by decide)
      exact k _ (Int.emod_nonneg _ (by decide)) (by omega)
def lettersL : List Nat := (List.range 26).map fun i => 97 + i
theorem letters_S : ("abcdefghijklmnopqrstuvwxyz" : Str) = SX.S lettersL := by decide +kernel
theorem letter_at {x : Int} (h0 : 0 ≤ x) (h1 : x < 26) : atI lettersL x = some (97 + x.toNat) := by
  obtain ⟨n, rfl⟩ : ∃ n : Nat, x = n := ⟨x.toNat, by omega⟩
  refine atI_nat ?_
  unfold lettersL
  rw [List.getElem?_map, List.getElem?_range (by omega)]
  rfl

def vs3 (e : Row4) : List V := [.int e.t, .str e.h, .str e.r]
def lt2 (x y : Row4) : Prop := lexP (fun a b : Int => a < b) ltStr (x.t, x.h) (y.t, y.h)
def spBefore : Sp := fun vs H Q _ => ∃ (a b : Addr) (x y : Row4), vs = [.ref a, .ref b] ∧ H a = some (.tup (vs3 x)) ∧ H b = some (.tup (vs3 y)) ∧ ∀ t : Bool, (t = true ↔ lt2 x y) → Q (.bl t) H
theorem ok_l_before (T : Txt K mg) : ∃ fd, FnOk P w K mg base CX0 1 (He.fAd K ("_law_before", none)) fd ["_law_one", "_law_other"] spBefore ∧ FunD K "_law_before" "_law_before" (defArgs s_l_before) (defBody s_l_before) (defScope s_l_before) [] [] (He.fAd K ("_law_before", none)) fd := by
  obtain ⟨fd, F⟩ := T.c.def_ 28 (d := d_l_before) rfl
  refine ⟨fd, F.ok sc_l_before (by walk_at "g94len") (fun cdv A outer st H vs Q E hr h => ?_), F⟩
  · obtain ⟨a, b, x, y, rfl, ha, hb, k⟩ := h
    refine ⟨_, PSs.nox (pss_cons (ps_if (pt_cmpR op_ne (pe_ix ix_tup (pv 0) pe_int (fun _ _ => rfl)) (pe_ix ix_tup (pv 1) pe_int (fun _ _ => rfl)) (nomark _)) (pss_one (ps_ret (pe_cmpR op_lt (pe_ix ix_tup (pv 0) pe_int (fun _ _ => rfl)) (pe_ix ix_tup (pv 1) pe_int (fun _ _ => rfl)) (nomark _)))) pss_nil)
        (pss_one (ps_ret (pe_cmpR op_ltS (pe_ix ix_tup (pv 0) pe_int (fun _ _ => rfl)) (pe_ix ix_tup (pv 1) pe_int (fun _ _ => rfl)) (nomark _))))), ?_⟩
    have a0 : atI (vs3 x) 0 = some (.int x.t) := rfl
    have a1 : atI (vs3 x) 1 = some (.str x.h) := rfl
    have b0 : atI (vs3 y) 0 = some (.int y.t) := rfl
    have b1 : atI (vs3 y) 1 = some (.str y.h) := rfl
    walk_at "wks"
    walk_at "ri" <;> intro c1
    · walk_at "wks"
      exact k _ (by
        rw [decide_eq_true_eq]
        unfold lt2 lexP
        exact ⟨fun q => .inl q, fun q => q.elim id fun z => absurd z.1 c1⟩)
    · walk_at "wks"
      exact k _ (by
        rw [decide_eq_true_eq]
        unfold lt2 lexP
        refine ⟨fun q => .inr ⟨c1, q⟩, fun q => q.elim (fun z => ?_) fun z => z.2⟩
        have z : x.t < y.t := z
        omega)
def spPut : Sp := fun vs H Q _ => ∃ (p x : Addr) (bs : List (Addr × Row4)) (e : Row4), vs = [.ref p, .ref x] ∧ H p = some (.lst (bs.map fun b => V.ref b.1)) ∧ (∀ b ∈ bs, H b.1 = some (.tup (vs3 b.2))) ∧ H x = some (.tup (vs3 e)) ∧ bs.length ≤ 100 ∧
  ∀ (i : Nat) H', i ≤ bs.length → (∀ j b, i ≤ j → bs[j]? = some b → lt2 e b.2) → (∀ b, 0 < i → bs[i - 1]? = some b → ¬ lt2 e b.2) → But p H H' → H' p = some (.lst ((bs.take i ++ [(x, e)] ++ bs.drop i).map fun b => V.ref b.1)) → Q .non H'
theorem ok_l_put (T : Txt K mg) : ∃ fd, FnOk P w K mg base CX0 2 (He.fAd K ("_law_put", none)) fd ["_law_rows", "_law_row"] spPut ∧ FunD K "_law_put" "_law_put" (defArgs s_l_put) (defBody s_l_put) (defScope s_l_put) [] [] (He.fAd K ("_law_put", none)) fd := by
  obtain ⟨fd, F⟩ := T.c.def_ 29 (d := d_l_put) rfl
  obtain ⟨fd_l_before, G_l_before, F_l_before⟩ := ok_l_before (P := P) (w := w) (base := base) T
  have kp_l_before := F_l_before.kp
  have b_l_before : Binds K fd_l_before ["_law_one", "_law_other"] [] := FunD.bindsN F_l_before (fun _ _ _ _ _ _ us hl => match us, hl with | [_, _], _ => rfl)
  refine ⟨fd, F.ok sc_l_put (by walk_at "g94len") (fun cdv A outer st H vs Q E hr h => ?_), F⟩
  · obtain ⟨p, x, bs, e, rfl, hp, hbs, hx, hl, k⟩ := h
    refine ⟨_, PSs.nox (pss_cons (ps_set (i := 2) sc_l_put.nd rfl (Or.inl rfl) (pe_callB call_len_seq (by rfl) (free_len T) (by decide +kernel) (pa_cons (pv 0) pa_nil)))
        (pss_cons (ps_while PassesOwn.never (PT.up (PW.pt (pw_and (pt_cmpR op_gt (pv 2) pe_int (nomark _)) (pw_and1 (pt_val (pe_call G_l_before (hr.mono (by decide)) rfl (glo__law_before T) kp_l_before b_l_before .nil pass0 (pa_cons (pv 1) (pa_cons (pe_ix ix_list (pv 0) (pe_op op_sub (pv 2) pe_int) (fun _ _ => rfl)) pa_nil)))))))) (pss_one (ps_set (i := 2) sc_l_put.nd rfl (Or.inl rfl) (pe_op op_sub (pv 2) pe_int))))
        (pss_one (ps_expr (pe_bm PySem.F.plainAttrs_list PySem.F.slot_list_insert PySem.F.type_list_insert mt_insertK (pv 0) (pa_cons (pv 2) (pa_cons (pv 1) pa_nil))))))), ?_⟩
    walk_at "wks"
    refine whileN (fun m σ' H' => σ' = [some (.ref p), some (.ref x), some (.int (m : Int))] ∧ H' = H ∧ m ≤ bs.length ∧ ∀ j b, m ≤ j → bs[j]? = some b → lt2 e b.2) bs.length ⟨?_, rfl, Nat.le_refl _, fun j b h q => ?_⟩ ?_
    · rw [List.length_map]
      rfl
    · have := (List.getElem?_eq_some_iff.mp q).1
      omega
    rintro m σ' H' ⟨rfl, rfl, hm, hall⟩
    walk_at "wks"
    walk_at "ri" <;> intro c1
    · obtain ⟨b, hb⟩ : ∃ b, bs[m - 1]? = some b := ⟨_, List.getElem?_eq_getElem (by omega)⟩
      have hat : atI (bs.map fun b => V.ref b.1) ((m : Int) - 1) = some (.ref b.1) := by
        rw [show (m : Int) - 1 = ((m - 1 : Nat) : Int) by omega]
        exact atI_nat (by rw [List.getElem?_map, hb]; rfl)
      walk_at "wks"
      refine ⟨x, b.1, e, b.2, rfl, hx, hbs b (List.mem_of_getElem? hb), fun t ht => ?_⟩
      walk_at "wks"
      cases t with
      | true =>
        walk_at "wks"
        refine ⟨m - 1, by omega, ?_, rfl, by omega, fun j b' hj q => ?_⟩
        · show [some (V.ref p), some (V.ref x), some (V.int ((m : Int) - 1))] = _
          rw [show (m : Int) - 1 = ((m - 1 : Nat) : Int) by omega]
        · by_cases ej : j = m - 1
          · subst ej
            rw [hb] at q
            obtain rfl := Option.some.inj q
            exact ht.mp rfl
          · exact hall j b' (by omega) q
      | false =>
        walk_at "wks"
        refine ⟨p, _, (m : Int), .ref x, rfl, rfl, hp, szlt (by rw [List.length_map]; omega), ⟨by omega, by omega⟩, fun H1 m1 h1 => ?_⟩
        refine k m H1 hm hall (fun b' h0 q => ?_) m1 ?_
        · rw [hb] at q
          obtain rfl := Option.some.inj q
          exact fun z => absurd (ht.mpr z) Bool.false_ne_true
        · rw [h1, Int.toNat_natCast, List.map_append, List.map_append, List.map_take, List.map_drop]
          rfl
    · walk_at "wks"
      refine ⟨p, _, (m : Int), .ref x, rfl, rfl, hp, szlt (by rw [List.length_map]; omega), ⟨by omega, by omega⟩, fun H1 m1 h1 => ?_⟩
      refine k m H1 hm hall (fun b' h0 q => ?_) m1 ?_
      · omega
      · rw [h1, Int.toNat_natCast, List.map_append, List.map_append, List.map_take, List.map_drop]
        rfl
def spSame : Sp := fun vs H Q _ => ∃ (p r : Addr) (rs : List Str) (bs : List (Addr × Row4)), vs = [.ref p, .ref r] ∧ H p = some (.lst (rs.map V.str)) ∧ H r = some (.lst (bs.map fun b => V.ref b.1)) ∧ (∀ b ∈ bs, H b.1 = some (.tup (vs3 b.2))) ∧ rs = bs.map (fun b => b.2.r) ∧ ∀ H', Same H H' → Q (.bl true) H'
theorem ok_l_same (T : Txt K mg) : ∃ fd, FnOk P w K mg base CX0 1 (He.fAd K ("_law_same", none)) fd ["_law_found", "_law_rows"] spSame ∧ FunD K "_law_same" "_law_same" (defArgs s_l_same) (defBody s_l_same) (defScope s_l_same) [] [] (He.fAd K ("_law_same", none)) fd := by
  obtain ⟨fd, F⟩ := T.c.def_ 30 (d := d_l_same) rfl
  refine ⟨fd, F.ok sc_l_same (by walk_at "g94len") (fun cdv A outer st H vs Q E hr h => ?_), F⟩
  · obtain ⟨p, r, rs, bs, rfl, hp, hr0, hbs, hrs, k⟩ := h
    refine ⟨_, PSs.nox (pss_cons (ps_if (PW.pt (pw_or (pt_not (pt_val (pe_callB call_isi (by rfl) (free_isinstance T) (by decide +kernel) (pa_cons (pv 0) (pa_cons (pe_bltn (v := .ty "list") (by rfl) (free_list T) (by decide +kernel) rfl) pa_nil))))) (pw_or1 (pt_cmpR op_ne (pe_callB call_len_seq (by rfl) (free_len T) (by decide +kernel) (pa_cons (pv 0) pa_nil)) (pe_callB call_len_seq (by rfl) (free_len T) (by decide +kernel) (pa_cons (pv 1) pa_nil)) (nomark _))))) (pss_one (ps_ret pe_bl)) pss_nil)
        (pss_cons (ps_for PassesOwn.never rfl (pi_zip (by rfl) (free_zip T) (pa_cons (pv 0) (pa_cons (pv 1) pa_nil))) (pg_tup rfl (pgs_cons (pg_name (i := 2) sc_l_same.nd rfl (Or.inl rfl)) (pgs_cons (pg_name (i := 3) sc_l_same.nd rfl (Or.inl rfl)) pgs_nil))) (pss_one (ps_if (PW.pt (pw_or (pt_not (pt_val (pe_callB call_isi (by rfl) (free_isinstance T) (by decide +kernel) (pa_cons (pv 2) (pa_cons (pe_bltn (v := .ty "str") (by rfl) (free_str T) (by decide +kernel) rfl) pa_nil))))) (pw_or1 (pt_cmpR op_ne (pv 2) (pe_ix ix_tup (pv 3) pe_int (fun _ _ => rfl)) (nomark _))))) (pss_one (ps_ret pe_bl)) pss_nil)))
        (pss_one (ps_ret pe_bl)))), ?_⟩
    walk_at "wks"
    refine iteND (fun q => absurd ?_ q) (fun _ => ?_)
    · rw [hrs, List.length_map, List.length_map, List.length_map]
    walk_at "wks"
    refine ⟨p, r, _, _, rfl, .of hp, .of hr0, ?_⟩
    refine for_zipK (xs := rs.map V.str) (ys := bs.map fun b => V.ref b.1) (by rw [hrs, List.length_map, List.length_map, List.length_map]) (fun i σ' H' => ∃ v2 v3, σ' = [some (.ref p), some (.ref r), v2, v3] ∧ Same H H') ⟨_, _, rfl, Same.refl _⟩ (fun i σ' H' _ ⟨_, _, _, s⟩ => ⟨.of (s _ _ hp), .of (s _ _ hr0)⟩) ?_ ?_
    · rintro i x y T σ' H1 H2 hx hy ⟨v2, v3, rfl, s1⟩ fT sT hT
      rw [List.getElem?_map, Option.map_eq_some_iff] at hx hy
      obtain ⟨z, hz, rfl⟩ := hx
      obtain ⟨b, hb, rfl⟩ := hy
      rw [hrs, List.getElem?_map, hb] at hz
      obtain rfl := Option.some.inj hz
      have s12 := s1.trans sT
      have hb2 := s12 _ _ (hbs b (List.mem_of_getElem? hb))
      have a2 : atI (vs3 b.2) 2 = some (.str b.2.r) := rfl
      walk_at "wks"
      refine iteND (fun q => absurd rfl q) (fun _ => ?_)
      exact ⟨_, _, rfl, s12⟩
    rintro σ' H' ⟨v2, v3, rfl, s1⟩
    walk_at "wks"
    exact k _ s1
/-! ### what is caught -/
/-- why a row is refused, late or none -/
def Why (K : PySem.W.Frag) (H : Hp) (v : V) (f : Str → Int) (late : Bool) : Prop := (late = false ∧ (IsA K H v "str" false ∨ ∃ l : List Nat, v = .str (SX.S l) ∧ Bad l ∧ l.length ≤ 1000)) ∨
  (late = true ∧ ∃ (l hand : List Nat) (tick : Int) (w : Str) (ts : List Th), v = .str (SX.S l) ∧ l.length ≤ 1000 ∧ RowIs (FX.words 32 l) hand tick w ts ∧ tick < f (SX.S hand))
abbrev cOf (K : PySem.W.Frag) (late : Bool) : Addr := if late = true then He.ga K "Late" else He.ga K "NoRow"
def spCaught (K : PySem.W.Frag) : Sp := fun vs H Q _ => ∃ (d dx pb ph pl : Addr) (v : V) (es : List (Addr × Row4)) (f : Str → Int) (n : Nat) (late : Bool), vs = [.ref d, v] ∧ Dk K H d dx pb ph pl es f n ∧ n ≤ 100 ∧ Why K H v f late ∧
  ∀ (a : Addr) H', Same H H' → H' a = some (excO (.ref (cOf K late)) none a) → Q (.ref a) H'
theorem ok_l_caught (T : Txt K mg) (TB : L2.FormsD K w (He.ga K "FORMS") formsKeys) : ∃ fd, FnOk P w K mg base CX0 9 (He.fAd K ("_law_caught", none)) fd ["_law_desk", "_law_row"] (spCaught K) ∧ FunD K "_law_caught" "_law_caught" (defArgs s_l_caught) (defBody s_l_caught) (defScope s_l_caught) [] [] (He.fAd K ("_law_caught", none)) fd := by
  obtain ⟨fd, F⟩ := T.c.def_ 31 (d := d_l_caught) rfl
  obtain ⟨fd_Desk_hear, G_Desk_hear, F_Desk_hear⟩ := ok_Desk_hear (P := P) (w := w) (base := base) T TB
  have kp_Desk_hear := F_Desk_hear.kp
  have b_Desk_hear : Binds K fd_Desk_hear ["self", "row"] [] := FunD.bindsN F_Desk_hear (fun _ _ _ _ _ _ us hl => match us, hl with | [_, _], _ => rfl)
  refine ⟨fd, F.ok sc_l_caught (by walk_at "g94len") (fun cdv A outer st H vs Q E hr h => ?_), F⟩
  · obtain ⟨d, dx, pb, ph, pl, v, es, f, n, late, rfl, D, hn, hw, k⟩ := h
    refine ⟨_, PSs.nox (pss_cons (ps_set (i := 2) sc_l_caught.nd rfl (Or.inl rfl) pe_non)
        (pss_cons (ps_try_asK (i := 3) rfl rfl sc_l_caught.nd rfl rfl ⟨rfl, by decide, .inl (glo_LampError T)⟩ (fun W pn xe tk _ => (pss_one (ps_expr (pe_methE (pv 0) (cls_Desk T) (m_Desk_hear T) G_Desk_hear (hr.mono (by decide)) b_Desk_hear (fun σ => passAt tk σ) (pa_cons (pv 1) pa_nil))))) (fun a oe cls d pn hz hf => (pss_one (ps_set (i := 2) sc_l_caught.nd rfl (Or.inl rfl) (pv 3)))))
        (pss_one (ps_ret (pv 2))))), ?_⟩
    have hd := D.hd
    unfold DkO at hd
    walk_at "wk"
    walk_at "wk"
    have end_ : ∀ (C : Addr) (H1 : Hp) (a : Addr), Same H H1 → H1 a = none → C = cOf K late → Q (.ref a) (upd H1 a (excO (.ref C) none a)) := fun C H1 a s1 ha e => by
      refine k a _ (s1.trans ((Same.refl H1).new ha)) ?_
      rw [upd_same, e]
    rcases hw with ⟨rfl, hb⟩ | ⟨rfl, l, hand, tick, w', ts, rfl, hl, hri, hlt⟩
    · refine ⟨_, rfl, d, dx, pb, ph, pl, v, es, f, n, rfl, D, hn, .inl ⟨hb, fun H1 s1 => ?_⟩⟩
      refine ⟨exm_NoRow_LampError T, fun a ha => ?_⟩
      walk_at "wks"
      intro _
      walk_at "wks"
      exact end_ _ H1 a s1 ha rfl
    · refine ⟨_, rfl, d, dx, pb, ph, pl, _, es, f, n, rfl, D, hn, .inr ⟨l, hand, tick, w', ts, rfl, hl, hri, .inl ⟨hlt, fun H1 s1 => ?_⟩⟩⟩
      refine ⟨exm_Late_LampError T, fun a ha => ?_⟩
      walk_at "wks"
      intro _
      walk_at "wks"
      exact end_ _ H1 a s1 ha rfl
def spRefused (K : PySem.W.Frag) : Sp := fun vs H Q _ => ∃ (d dx pb ph pl : Addr) (v : V) (es : List (Addr × Row4)) (f : Str → Int) (n : Nat) (late : Bool), vs = [.ref d, v, .bl late] ∧ Dk K H d dx pb ph pl es f n ∧ n ≤ 100 ∧ Why K H v f late ∧
  ∀ H', Same H H' → Q (.bl true) H'
theorem ok_l_refused (T : Txt K mg) (TB : L2.FormsD K w (He.ga K "FORMS") formsKeys) : ∃ fd, FnOk P w K mg base CX0 10 (He.fAd K ("_law_refused", none)) fd ["_law_desk", "_law_row", "_law_late"] (spRefused K) ∧ FunD K "_law_refused" "_law_refused" (defArgs s_l_refused) (defBody s_l_refused) (defScope s_l_refused) [] [] (He.fAd K ("_law_refused", none)) fd := by
  obtain ⟨fd, F⟩ := T.c.def_ 32 (d := d_l_refused) rfl
  obtain ⟨fd_l_caught, G_l_caught, F_l_caught⟩ := ok_l_caught (P := P) (w := w) (base := base) T TB
  have kp_l_caught := F_l_caught.kp
  have b_l_caught : Binds K fd_l_caught ["_law_desk", "_law_row"] [] := FunD.bindsN F_l_caught (fun _ _ _ _ _ _ us hl => match us, hl with | [_, _], _ => rfl)
  refine ⟨fd, F.ok sc_l_refused (by walk_at "g94len") (fun cdv A outer st H vs Q E hr h => ?_), F⟩
  · obtain ⟨d, dx, pb, ph, pl, v, es, f, n, late, rfl, D, hn, hw, k⟩ := h
    refine ⟨_, PSs.nox (pss_cons (ps_set (i := 3) sc_l_refused.nd rfl (Or.inl rfl) (pe_call G_l_caught (hr.mono (by decide)) rfl (glo__law_caught T) kp_l_caught b_l_caught .nil pass0 (pa_cons (pv 0) (pa_cons (pv 1) pa_nil))))
        (pss_cons (ps_if (PW.pt (pw_or (pt_not (pt_val (pe_callB call_isKD (by rfl) (free_isinstance T) (by decide +kernel) (pa_cons (pv 3) (pa_cons (pe_bltn (v := .ty "ValueError") (by rfl) (free_ValueError T) (by decide +kernel) rfl) pa_nil))))) (pw_or1 (pt_val (pe_callB call_isKD (by rfl) (free_isinstance T) (by decide +kernel) (pa_cons (pv 3) (pa_cons (pe_glob (v := .ref (He.ga K "NoText")) rfl (glo_NoText T) rfl) pa_nil))))))) (pss_one (ps_ret pe_bl)) pss_nil)
        (pss_cons (ps_if (PW.pt (pw_or (pt_val (pe_callB call_isKD (by rfl) (free_isinstance T) (by decide +kernel) (pa_cons (pv 3) (pa_cons (pe_glob (v := .ref (He.ga K "NoCue")) rfl (glo_NoCue T) rfl) pa_nil)))) (pw_or1 (pt_val (pe_callB call_isKD (by rfl) (free_isinstance T) (by decide +kernel) (pa_cons (pv 3) (pa_cons (pe_glob (v := .ref (He.ga K "NoName")) rfl (glo_NoName T) rfl) pa_nil))))))) (pss_one (ps_ret pe_bl)) pss_nil)
        (pss_one (ps_ret (pe_and (pe_cmpR op_eq (pe_callB call_isKD (by rfl) (free_isinstance T) (by decide +kernel) (pa_cons (pv 3) (pa_cons (pe_glob (v := .ref (He.ga K "Late")) rfl (glo_Late T) rfl) pa_nil))) (pv 2) (nomark _)) (pe_one (pe_cmpR op_ne (pe_callB call_isKD (by rfl) (free_isinstance T) (by decide +kernel) (pa_cons (pv 3) (pa_cons (pe_glob (v := .ref (He.ga K "NoRow")) rfl (glo_NoRow T) rfl) pa_nil))) (pv 2) (nomark _))))))))), ?_⟩
    walk_at "wks"
    refine ⟨d, dx, pb, ph, pl, v, es, f, n, late, rfl, D, hn, hw, fun a H1 s1 h1 => ?_⟩
    cases late with
    | true =>
      have h1 : H1 a = some (excO (.ref (He.ga K "Late")) none a) := h1
      (repeat first | (refine ⟨_, _, _, _, _, _, rfl, (by walk_at "hp"), (fun dd2 e => by cases e), excC_Late T, (fun _ h => h), is_Late_ValueError T, ?_⟩) | (refine ⟨_, _, _, _, _, _, rfl, (by walk_at "hp"), (fun dd2 e => by cases e), excC_Late T, (fun _ h => h), is_Late_NoText T, ?_⟩) | (refine ⟨_, _, _, _, _, _, rfl, (by walk_at "hp"), (fun dd2 e => by cases e), excC_Late T, (fun _ h => h), is_Late_NoCue T, ?_⟩) | (refine ⟨_, _, _, _, _, _, rfl, (by walk_at "hp"), (fun dd2 e => by cases e), excC_Late T, (fun _ h => h), is_Late_NoName T, ?_⟩) | (refine ⟨_, _, _, _, _, _, rfl, (by walk_at "hp"), (fun dd2 e => by cases e), excC_Late T, (fun _ h => h), is_Late_Late T, ?_⟩) | (refine ⟨_, _, _, _, _, _, rfl, (by walk_at "hp"), (fun dd2 e => by cases e), excC_Late T, (fun _ h => h), is_Late_NoRow T, ?_⟩) | (walk_at "wk"))
      show Q (V.bl (!decide (V.bl false = V.bl true))) H1
      rw [show (!decide (V.bl false = V.bl true)) = true by decide]
      exact k _ s1
    | false =>
      have h1 : H1 a = some (excO (.ref (He.ga K "NoRow")) none a) := h1
      (repeat first | (refine ⟨_, _, _, _, _, _, rfl, (by walk_at "hp"), (fun dd2 e => by cases e), excC_NoRow T, (fun _ h => h), is_NoRow_ValueError T, ?_⟩) | (refine ⟨_, _, _, _, _, _, rfl, (by walk_at "hp"), (fun dd2 e => by cases e), excC_NoRow T, (fun _ h => h), is_NoRow_NoText T, ?_⟩) | (refine ⟨_, _, _, _, _, _, rfl, (by walk_at "hp"), (fun dd2 e => by cases e), excC_NoRow T, (fun _ h => h), is_NoRow_NoCue T, ?_⟩) | (refine ⟨_, _, _, _, _, _, rfl, (by walk_at "hp"), (fun dd2 e => by cases e), excC_NoRow T, (fun _ h => h), is_NoRow_NoName T, ?_⟩) | (refine ⟨_, _, _, _, _, _, rfl, (by walk_at "hp"), (fun dd2 e => by cases e), excC_NoRow T, (fun _ h => h), is_NoRow_Late T, ?_⟩) | (refine ⟨_, _, _, _, _, _, rfl, (by walk_at "hp"), (fun dd2 e => by cases e), excC_NoRow T, (fun _ h => h), is_NoRow_NoRow T, ?_⟩) | (walk_at "wk"))
      show Q (V.bl (!decide (V.bl true = V.bl false))) H1
      rw [show (!decide (V.bl true = V.bl false)) = true by decide]
      exact k _ s1
theorem whole_num {k : Nat} {m : Int} (h1 : (k : Int) ≤ m) (h2 : k < 10000000000000) : whole (TL.numL k) m = some (k : Int) := by
  have hl := TL.numL_len (n := k) (k := 13) (by decide) h2
  unfold whole
  rw [if_neg (fun e => e.elim (TL.numL_ne k) (fun q => by omega)), if_pos (numL_fig k), numL_valI, if_neg, if_neg (by omega)]
  rintro ⟨q1, q2⟩
  cases e : TL.numL k with
  | nil => exact TL.numL_ne k e
  | cons x s =>
    rw [e] at q1 q2
    have : x = 48 := Option.some.inj q1
    subst this
    rw [num_nought e] at q2
    exact absurd q2 (by decide)

theorem row_plain {hand w : List Nat} {m : Nat} {z : Str} (hh : lampB hand = true) (t1 : (m : Int) ≤ 999999999999) (ez : SX.S w = z) (hz : z ∈ formsKeys) (hf : form z = []) : RowIs (hand :: TL.numL m :: [w]) hand m z [] := by
  refine ⟨_, _, _, rfl, hh, whole_num t1 (by omega), ez, hz, ?_⟩
  have no : hasFollow z [] ≠ true := fun q => absurd (follow_of q).2.1 (by simp)
  unfold kindsOf wordsOf
  rw [if_neg no, if_neg no, hf]
  exact .nil
def spTextL : Sp := fun vs H Q _ => ∃ (hand : List Nat) (tick n : Int), vs = [.str (SX.S hand), .int tick, .int n] ∧ lampB hand = true ∧ 0 ≤ tick ∧ tick ≤ 999999999999 ∧ 0 ≤ n ∧
  ∀ (l : List Nat) (w : Str) (ts : List Th) H', RowIs (FX.words 32 l) hand tick w ts → l.length ≤ 1000 → Same H H' → Q (.str (SX.S l)) H'
theorem ok_l_text (T : Txt K mg) : ∃ fd, FnOk P w K mg base CX0 1 (He.fAd K ("_law_text", none)) fd ["_law_hand", "_law_tick", "_law_number_here"] spTextL ∧ FunD K "_law_text" "_law_text" (defArgs s_l_text) (defBody s_l_text) (defScope s_l_text) [] [] (He.fAd K ("_law_text", none)) fd := by
  obtain ⟨fd, F⟩ := T.c.def_ 33 (d := d_l_text) rfl
  refine ⟨fd, F.ok sc_l_text (by walk_at "g94len") (fun cdv A outer st H vs Q E hr h => ?_), F⟩
  · obtain ⟨hand, tick, n, rfl, hh, t0, t1, n0, k⟩ := h
    refine ⟨_, PSs.nox (pss_cons (ps_set (i := 3) sc_l_text.nd rfl (Or.inl rfl) (pe_lstK (pa_cons pe_str (pa_cons pe_str (pa_cons pe_str (pa_cons (pe_op op_add_str pe_str (pe_callTy call_str_int (by rfl) (free_str T) (by decide +kernel) (pa_cons (pe_op op_mod (pe_op op_fdiv (pv 2) pe_int) pe_int) pa_nil))) pa_nil))))))
        (pss_one (ps_ret (pe_op op_add_str (pe_op op_add_str (pe_op op_add_str (pe_op op_add_str (pv 0) pe_str) (pe_callTy call_str_int (by rfl) (free_str T) (by decide +kernel) (pa_cons (pv 1) pa_nil))) pe_str) (pe_ix ix_list (pv 3) (pe_op op_mod (pv 2) pe_int) (fun _ _ => rfl)))))), ?_⟩
    obtain ⟨m, rfl⟩ : ∃ m : Nat, tick = m := ⟨tick.toNat, by omega⟩
    have gm : ((m : Nat) : Int).natAbs.log2 < 1920 := lg (by omega)
    have gn : (n / 4 % 1001).natAbs.log2 < 1920 := by
      obtain ⟨j, hj⟩ : ∃ j : Nat, n / 4 % 1001 = j := ⟨(n / 4 % 1001).toNat, by omega⟩
      rw [hj]
      exact lg (by omega)
    obtain ⟨j, hj, hj2⟩ : ∃ j : Nat, n / 4 % 1001 = j ∧ j ≤ 1000 := ⟨(n / 4 % 1001).toNat, by omega, by omega⟩
    have em : Str.ofString "move f " = SX.S [109, 111, 118, 101, 32, 102, 32] := by decide +kernel
    have eb : Str.ofString " " = SX.S [32] := by decide +kernel
    have z : ∀ x y : List Nat, x.length ≤ 100 → y.length ≤ 100 → (SX.S x).length + (SX.S y).length ≤ sizeLine := fun a b h1 h2 => by
      rw [len_S, len_S]
      exact small_size (by omega)
    have lj := TL.numL_len (n := j) (k := 4) (by decide) (by show j < 10000; omega)
    have lm := TL.numL_len (n := m) (k := 12) (by decide) (by show m < 1000000000000; omega)
    have lh := (lamp_of hh).2.1
    rw [em, eb]
    walk_at "wks"
    rw [hj, str_num]
    refine ⟨z _ _ (by decide) (by omega), ?_⟩
    rw [SX.S_cat]
    walk_at "wks"
    rename_i p H1 f1 s1 h1
    obtain ⟨tl, ws, w', ts, hat, etl, ltl, hri⟩ : ∃ (tl : List Nat) (ws : List (List Nat)) (w' : Str) (ts : List Th), atI [V.str "go", V.str "stop", V.str "on", V.str (SX.S ([109, 111, 118, 101, 32, 102, 32] ++ TL.numL j))] (n % 4) = some (.str (SX.S tl)) ∧
        (hand ++ [32] ++ TL.numL m ++ [32] ++ tl = TL.joinL [32] (hand :: TL.numL m :: ws)) ∧ tl.length ≤ 20 ∧ RowIs (hand :: TL.numL m :: ws) hand m w' ts := by
      rcases (by omega : n % 4 = 0 ∨ n % 4 = 1 ∨ n % 4 = 2 ∨ n % 4 = 3) with e | e | e | e <;> rw [e]
      · exact ⟨[103, 111], [[103, 111]], "go", [], by rw [show ("go" : Str) = SX.S [103, 111] by decide +kernel]; rfl, by simp [TL.joinL], by decide, row_plain hh t1 (by decide +kernel) (by decide +kernel) (by decide +kernel)⟩
      · exact ⟨[115, 116, 111, 112], [[115, 116, 111, 112]], "stop", [], by rw [show ("stop" : Str) = SX.S [115, 116, 111, 112] by decide +kernel]; rfl, by simp [TL.joinL], by decide, row_plain hh t1 (by decide +kernel) (by decide +kernel) (by decide +kernel)⟩
      · exact ⟨[111, 110], [[111, 110]], "on", [], by rw [show ("on" : Str) = SX.S [111, 110] by decide +kernel]; rfl, by simp [TL.joinL], by decide, row_plain hh t1 (by decide +kernel) (by decide +kernel) (by decide +kernel)⟩
      · refine ⟨[109, 111, 118, 101, 32, 102, 32] ++ TL.numL j, [[109, 111, 118, 101], [102], TL.numL j], "move", [.txt [102], .num j], rfl, by simp [TL.joinL], ?_, ?_⟩
        · rw [List.length_append]
          show 7 + _ ≤ 20
          omega
        · refine ⟨_, _, _, rfl, hh, whole_num t1 (by omega), by decide +kernel, by decide +kernel, ?_⟩
          have no : hasFollow "move" [[102], TL.numL j] ≠ true := fun q => absurd (follow_of q).2.1 (by simp)
          unfold kindsOf wordsOf
          rw [if_neg no, if_neg no, show form "move" = [("name" : Str), "level"] by decide +kernel]
          exact .cons (tk_name.mpr ⟨by decide +kernel, rfl⟩) (.cons (tk_level.mpr ⟨j, whole_num (by omega) (by omega), by omega, rfl⟩) .nil)
    have lens : (hand ++ [32]).length ≤ 10 ∧ (hand ++ [32] ++ TL.numL m).length ≤ 30 ∧ (hand ++ [32] ++ TL.numL m ++ [32]).length ≤ 31 := by
      simp only [List.length_append, List.length_cons, List.length_nil]
      omega
    refine ⟨z _ _ (by omega) (by decide), ?_⟩
    rw [SX.S_cat]
    walk_at "wks"
    rw [str_num]
    refine ⟨z _ _ (by omega) (by omega), ?_⟩
    rw [SX.S_cat]
    walk_at "wks"
    refine ⟨z _ _ (by omega) (by decide), ?_⟩
    rw [SX.S_cat]
    walk_at "wks"
    refine ⟨z _ _ (by omega) (by omega), ?_⟩
    rw [SX.S_cat]
    have hri2 : RowIs (FX.words 32 (hand ++ [32] ++ TL.numL m ++ [32] ++ tl)) hand m w' ts := by
      rw [etl, FX.words_join (List.cons_ne_nil _ _) (row_free hri)]
      exact hri
    exact k _ w' ts H1 hri2 (by rw [List.length_append]; omega) s1
/-! ### the hands -/
theorem join_nil : ∀ ls : List (List Nat), TL.joinL [] ls = ls.flatten
  | [] => rfl
  | [p] => by simp [TL.joinL]
  | p :: q :: r => by
    show p ++ ([] ++ TL.joinL [] (q :: r)) = p ++ (q :: r).flatten
    rw [join_nil (q :: r), List.nil_append]
theorem one_S (c : Nat) : (⟨#[c]⟩ : Str) = SX.S [c] := rfl
theorem flat_one : ∀ l : List Nat, (l.map fun c => [c]).flatten = l
  | [] => rfl
  | c :: l => by
    show [c] ++ (l.map fun c => [c]).flatten = c :: l
    rw [flat_one l]
    rfl
theorem sum_one : ∀ l : List Nat, (((l.map fun c => SX.S [c])).map fun x => x.length).sum = l.length
  | [] => rfl
  | c :: l => by
    rw [List.map_cons, List.map_cons, List.sum_cons, sum_one l, len_S, List.length_cons]
    show 1 + l.length = l.length + 1
    omega
theorem letter_some {x : Int} (h0 : 0 ≤ x) (h1 : x < 26) : ∃ ch, (97 ≤ ch ∧ ch ≤ 122) ∧ atI lettersL x = some ch := ⟨_, by omega, letter_at h0 h1⟩
def spNames : Sp := fun vs H Q _ => ∃ c : Int, vs = [.int c] ∧ 0 ≤ c ∧ ∀ (ls : List (List Nat)) (q : Addr) H', ls.length = 3 → (∀ l ∈ ls, lampB l = true) → Same H H' → L2.Fr H q → H' q = some (.lst (ls.map fun l => V.str (SX.S l))) → Q (.ref q) H'
theorem ok_l_names (T : Txt K mg) : ∃ fd, FnOk P w K mg base CX0 1 (He.fAd K ("_law_names", none)) fd ["_law_cell"] spNames ∧ FunD K "_law_names" "_law_names" (defArgs s_l_names) (defBody s_l_names) (defScope s_l_names) [] [] (He.fAd K ("_law_names", none)) fd := by
  obtain ⟨fd, F⟩ := T.c.def_ 27 (d := d_l_names) rfl
  refine ⟨fd, F.ok sc_l_names (by walk_at "g94len") (fun cdv A outer st H vs Q E hr h => ?_), F⟩
  · obtain ⟨c, rfl, c0, k⟩ := h
    refine ⟨_, PSs.nox (pss_cons (ps_set (i := 1) sc_l_names.nd rfl (Or.inr rfl) pe_str)
        (pss_cons (ps_set (i := 2) sc_l_names.nd rfl (Or.inl rfl) (pe_bm PySem.F.plainAttrs_str PySem.F.slot_str_join PySem.F.type_str_join mt_join pe_str (pa_cons (pe_lc (own := [("_law_k", 5)]) (g := upG (gName 5)) rfl sc_l_names.nd (pi_range1 rfl (free_range T) (pa_cons (pe_op op_add pe_int (pe_op op_mod (pv 0) pe_int)) pa_nil)) (blkOk_by (own := [("_law_k", 5)]) (N := ["_law_cell", "_law_letters", "_law_base", "_law_at", "_law_some", "_law_k"]) (sc := defScope s_l_names) (by decide +kernel)) (fun _ _ _ _ _ => (PG.up (pg_name (i := 5) sc_l_names.nd rfl (Or.inl rfl)))) (fun _ _ _ _ _ => (PTs.up pts_nil)) (fun _ _ _ _ _ => (PE.up (pe_ix ix_str (pv 1) (pe_op op_mod (pe_op op_add (pe_op op_fdivW (pv 0) (pe_op op_add (pv 5) pe_int)) (pe_op op_mul (pv 5) (pv 5))) pe_int) (fun _ _ => rfl))))) pa_nil)))
        (pss_cons (ps_if (pt_cmpR op_eq (pe_op op_mod (pe_op op_fdiv (pv 0) pe_int) pe_int) pe_int (nomark _)) (pss_one (ps_ret (pe_lstK (pa_cons (pe_op op_add_str (pv 2) pe_str) (pa_cons (pv 2) (pa_cons (pe_op op_add_str (pv 2) pe_str) pa_nil)))))) pss_nil)
        (pss_cons (ps_set (i := 3) sc_l_names.nd rfl (Or.inl rfl) (pe_op op_mod (pe_op op_fdiv (pv 0) pe_int) (pe_callB call_len_str (by rfl) (free_len T) (by decide +kernel) (pa_cons (pv 2) pa_nil))))
        (pss_cons (ps_set (i := 4) sc_l_names.nd rfl (Or.inl rfl) (pe_lstK pa_nil))
        (pss_cons (ps_for PassesOwn.never rfl (pi_range1 rfl (free_range T) (pa_cons pe_int pa_nil)) (pg_name (i := 5) sc_l_names.nd rfl (Or.inl rfl)) (pss_one (ps_expr (pe_bm PySem.F.plainAttrs_list PySem.F.slot_list_append PySem.F.type_list_append mt_appendK (pv 4) (pa_cons (pe_op op_add_str (pe_op op_add_str (pe_slice C8.sl_txt (pv 2) po_none (po_some (pv 3))) (pe_ix ix_str (pv 1) (pe_op op_mod (pe_op op_add (pe_m1 PySem.F.slot_str_find PySem.F.type_str_find mt_find (pv 1) (pe_ix ix_str (pv 2) (pv 3) (fun _ _ => rfl))) (pe_ix ix_list (pe_lstK (pa_cons pe_int (pa_cons pe_int (pa_cons pe_int pa_nil)))) (pv 5) (fun _ _ => rfl))) pe_int) (fun _ _ => rfl))) (pe_slice C8.sl_txt (pv 2) (po_some (pe_op op_add (pv 3) pe_int)) po_none)) pa_nil)))))
        (pss_one (ps_ret (pv 4))))))))), ?_⟩
    rw [letters_S]
    walk_at "wks"
    refine fun D hD => lcK_range (lo := 0) (n := (1 + c % 7).toNat) hD (fun i H' => Same H H' ∧ ∃ bs : List Nat, bs.length = i ∧ (∀ z ∈ bs, 97 ≤ z ∧ z ≤ 122) ∧ H' D = some (.lst ((bs.map fun z => SX.S [z]).map V.str))) (fun H' f s h => ⟨s, [], rfl, (by simp), h⟩) ?_ ?_
    · rintro i H1 hi ⟨s1, bs, hl, hc, h1⟩
      have i8 : i < 8 := by omega
      have hm : 0 ≤ (0 + (i : Int)) * (0 + (i : Int)) ∧ (0 + (i : Int)) * (0 + (i : Int)) ≤ 8 * 8 := ⟨Int.mul_nonneg (by omega) (by omega), Int.mul_le_mul (by omega) (by omega) (by omega) (by decide)⟩
      have hq : 0 ≤ c / (0 + (i : Int) + 1) := Int.ediv_nonneg (by omega) (by omega)
      walk_at "wks"
      have hx : 0 ≤ (c / (0 + (i : Int) + 1) + (0 + (i : Int)) * (0 + (i : Int))) % 26 ∧ (c / (0 + (i : Int) + 1) + (0 + (i : Int)) * (0 + (i : Int))) % 26 < 26 := ⟨Int.emod_nonneg _ (by decide), Int.emod_lt_of_pos _ (by decide)⟩
      obtain ⟨ch, hch, hat⟩ := letter_some hx.1 hx.2
      refine ⟨_, _, _, rfl, rfl, by decide +kernel, hat, ?_⟩
      refine ⟨_, h1, szlt (by rw [List.length_map, List.length_map]; omega), fun H2 m2 h2 => ⟨s1.but m2 hD, bs ++ [ch], by rw [List.length_append, hl]; rfl, fun z hz => ?_, ?_⟩⟩
      · rcases List.mem_append.mp hz with hz | hz
        · exact hc z hz
        · rw [List.mem_singleton.mp hz]
          exact hch
      · rw [h2, List.map_append, List.map_append]
        rfl
    rintro H1 ⟨s1, bs, hl, hc, h1⟩
    have hb7 : bs.length = (1 + c % 7).toNat := hl
    walk_at "wks"
    refine ⟨_, D, bs.map (fun z => SX.S [z]), rfl, rfl, .inl (.of h1), ?_, ?_⟩
    · rw [sum_one, List.length_map]
      show _ + bs.length * 0 ≤ 16777216
      omega
    have ej : Txt.join (Str.ofString "") (bs.map fun z => SX.S [z]) = SX.S bs := by
      rw [show Str.ofString "" = SX.S [] by decide +kernel, show (bs.map fun z => SX.S [z]) = (bs.map fun z => [z]).map SX.S by rw [List.map_map]; rfl, SX.join_S, join_nil, flat_one]
    rw [ej]
    have lamp : ∀ l : List Nat, 1 ≤ l.length → l.length ≤ 8 → (∀ z ∈ l, 97 ≤ z ∧ z ≤ 122) → lampB l = true := fun l h1 h2 h3 => lamp_mk h1 h2 h3
    have z : ∀ x y : List Nat, x.length ≤ 100 → y.length ≤ 100 → (SX.S x).length + (SX.S y).length ≤ sizeLine := fun a b h1 h2 => by
      rw [len_S, len_S]
      exact small_size (by omega)
    rw [show Str.ofString "n" = SX.S [110] by decide +kernel, show Str.ofString "b" = SX.S [98] by decide +kernel]
    walk_at "wks"
    walk_at "ri" <;> intro c1
    · walk_at "wks"
      refine ⟨z _ _ (by omega) (by decide), ?_⟩
      rw [SX.S_cat]
      walk_at "wks"
      refine ⟨z _ _ (by omega) (by decide), ?_⟩
      rw [SX.S_cat]
      walk_at "wks"
      rename_i q H2 f2 s2 h2
      refine k [bs ++ [110], bs, bs ++ [98]] q H2 rfl (fun l hl2 => ?_) (s1.trans s2) (Fr.back f2 s1) h2
      have app : ∀ d : Nat, 97 ≤ d ∧ d ≤ 122 → lampB (bs ++ [d]) = true := fun d hd => lamp _ (by rw [List.length_append]; show 1 ≤ bs.length + 1; omega) (by rw [List.length_append]; show bs.length + 1 ≤ 8; omega) fun y hy => by
        rcases List.mem_append.mp hy with hy | hy
        · exact hc y hy
        · rw [List.mem_singleton.mp hy]
          exact hd
      simp only [List.mem_cons, List.not_mem_nil, or_false] at hl2
      rcases hl2 with rfl | rfl | rfl
      · exact app _ (by decide)
      · exact lamp _ (by omega) (by omega) hc
      · exact app _ (by decide)
    · have hsz : (SX.S bs).length ≤ sizeLine := by
        rw [len_S]
        exact small_size (by omega)
      walk_at "wks"
      have a0 := Int.emod_nonneg (c / 14) (show (bs.length : Int) ≠ 0 by omega)
      have a1 := Int.emod_lt_of_pos (c / 14) (show (0 : Int) < bs.length by omega)
      rw [len_S]
      refine ⟨by show (0 : Int) < bs.length; omega, ?_⟩
      dsimp only
      generalize c / 14 % (bs.length : Int) = at_ at a0 a1 ⊢
      obtain ⟨i, rfl⟩ : ∃ i : Nat, at_ = i := ⟨at_.toNat, by omega⟩
      obtain ⟨ch, hch⟩ : ∃ ch, bs[i]? = some ch := ⟨_, List.getElem?_eq_getElem (by omega)⟩
      have hat : atI bs (i : Int) = some ch := atI_nat hch
      walk_at "wks"
      rename_i pS H2 f2 s2 h2
      have fD : L2.Fr H pS := Fr.back f2 s1
      refine for_range (lo := 0) (n := 3) (fun j σ' H' => ∃ (v : Option V) (ls : List (List Nat)), σ' = [some (.int c), some (.str (SX.S lettersL)), some (.str (SX.S bs)), some (.int (i : Int)), some (.ref pS), v] ∧ Same H H' ∧ ls.length = j ∧ (∀ l ∈ ls, lampB l = true) ∧ H' pS = some (.lst (ls.map fun l => V.str (SX.S l)))) ⟨_, [], rfl, s1.trans s2, rfl, (by simp), h2⟩ ?_ ?_
      · rintro j σ' H' hj ⟨v, ls, rfl, s3, l3, hl3, h3⟩
        walk_at "wks"
        refine ⟨⟨_, rfl⟩, ?_⟩
        walk_at "wks"
        refine ⟨_, _, _, rfl, rfl, hsz, hat, ?_⟩
        refine ⟨_, _, rfl, rfl, ?_⟩
        generalize Txt.find _ _ = fi
        obtain ⟨vj, hvj⟩ : ∃ vj : Int, atI [V.int 0, V.int 25, V.int 1] (0 + (j : Int)) = some (.int vj) := by
          rcases (by omega : (0 + (j : Int)) = 0 ∨ (0 + (j : Int)) = 1 ∨ (0 + (j : Int)) = 2) with e | e | e <;> rw [e] <;> exact ⟨_, rfl⟩
        walk_at "wks"
        rename_i pI H3 f3 s3' h3'
        have h3b := s3' _ _ h3
        obtain ⟨c2, hc2, hat2⟩ := letter_some (Int.emod_nonneg (fi + vj) (show (26 : Int) ≠ 0 by decide)) (Int.emod_lt_of_pos (fi + vj) (show (0 : Int) < 26 by decide))
        have es1 : Txt.slice (SX.S bs) none (some (i : Int)) = SX.S (bs.take i) := by
          rw [SX.slice_to (by omega), Int.toNat_natCast]
        have es2 : Txt.slice (SX.S bs) (some ((i : Int) + 1)) none = SX.S (bs.drop (i + 1)) := by
          rw [SX.slice_from (by omega)]
          congr 2
        have lt1 : (bs.take i).length = i := by
          rw [List.length_take]
          omega
        have ld1 : (bs.drop (i + 1)).length = bs.length - (i + 1) := List.length_drop
        refine ⟨_, _, _, rfl, rfl, by decide +kernel, hat2, ?_⟩
        rw [es1, one_S]
        refine ⟨_, _, rfl, rfl, z _ _ (by omega) (show 1 ≤ 100 by decide), ?_⟩
        rw [SX.S_cat]
        walk_at "wks"
        rw [es2]
        have lta : (bs.take i ++ [c2]).length = i + 1 := by
          rw [List.length_append, lt1]
          rfl
        refine ⟨z _ _ (by omega) (by omega), ?_⟩
        rw [SX.S_cat]
        walk_at "wks"
        rename_i H4 m4 h4
        refine ⟨_, ls ++ [bs.take i ++ [c2] ++ bs.drop (i + 1)], rfl, (s3.trans s3').but m4 fD, by rw [List.length_append, l3]; rfl, fun l hl2 => ?_, ?_⟩
        · rcases List.mem_append.mp hl2 with hl2 | hl2
          · exact hl3 l hl2
          · rw [List.mem_singleton.mp hl2]
            refine lamp _ (by rw [List.length_append, lta, ld1]; omega) (by rw [List.length_append, lta, ld1]; omega) fun y hy => ?_
            rcases List.mem_append.mp hy with hy | hy
            · rcases List.mem_append.mp hy with hy | hy
              · exact hc y (List.mem_of_mem_take hy)
              · rw [List.mem_singleton.mp hy]
                exact hc2
            · exact hc y (List.mem_of_mem_drop hy)
        · rw [h4, List.map_append]
          rfl
      rintro σ' H' ⟨v, ls, rfl, s3, l3, hl3, h3⟩
      walk_at "wks"
      exact k ls pS H' l3 hl3 s3 fD h3
def spBegun : Sp := fun vs H Q _ => ∃ c : Int, vs = [.int c] ∧ ∀ H', Same H H' → Q (.bl true) H'
theorem ok_l_begun (T : Txt K mg) : ∃ fd, FnOk P w K mg base CX0 11 (He.fAd K ("_law_begun", none)) fd ["_law_cell"] spBegun ∧ FunD K "_law_begun" "_law_begun" (defArgs s_l_begun) (defBody s_l_begun) (defScope s_l_begun) [] [] (He.fAd K ("_law_begun", none)) fd := by
  obtain ⟨fd, F⟩ := T.c.def_ 35 (d := d_l_begun) rfl
  obtain ⟨fd_Desk_init, G_Desk_init, F_Desk_init⟩ := ok_Desk_init (P := P) (w := w) (base := base) T
  have kp_Desk_init := F_Desk_init.kp
  obtain ⟨d0_Desk_init, v0_Desk_init, b0_Desk_init⟩ : ∃ ds, Vals ([V.str ""].drop 1) ds ∧ Binds K fd_Desk_init ["self", "text"] ds := F_Desk_init.binds1 2 1 (by decide) rfl (fun _ _ _ _ _ _ _ us its h1 h2 => match us, its, h1, h2 with | [_, _], [_], _, _ => ⟨_, rfl, rfl⟩)
  refine ⟨fd, F.ok sc_l_begun (by walk_at "g94len") (fun cdv A outer st H vs Q E hr h => ?_), F⟩
  · obtain ⟨c, rfl, k⟩ := h
    refine ⟨_, PSs.nox (pss_cons (ps_set (i := 1) sc_l_begun.nd rfl (Or.inl rfl) (pe_lstK (pa_cons (pe_tupK (pa_cons pe_str (pa_cons pe_int pa_nil))) (pa_cons (pe_tupK (pa_cons pe_non (pa_cons pe_int pa_nil))) (pa_cons (pe_tupK (pa_cons pe_str (pa_cons pe_int pa_nil))) (pa_cons (pe_tupK (pa_cons pe_str (pa_cons pe_int pa_nil))) (pa_cons (pe_tupK (pa_cons pe_int (pa_cons pe_int pa_nil))) (pa_cons (pe_tupK (pa_cons pe_str (pa_cons pe_int pa_nil))) pa_nil))))))))
        (pss_cons (ps_asg (pe_ix ix_list (pv 1) (pe_op op_mod (pv 0) pe_int) (fun _ _ => rfl)) (pg_tup rfl (pgs_cons (pg_name (i := 2) sc_l_begun.nd rfl (Or.inl rfl)) (pgs_cons (pg_name (i := 3) sc_l_begun.nd rfl (Or.inl rfl)) pgs_nil))))
        (pss_cons (ps_set (i := 4) sc_l_begun.nd rfl (Or.inl rfl) pe_negC)
        (pss_cons (ps_try_as (i := 5) rfl rfl sc_l_begun.nd rfl rfl ⟨rfl, by decide, .inl (glo_NoText T)⟩ takes0 (fun W pn xe tk _ => (pss_one (ps_expr (pe_makeSK (mk_Desk T) G_Desk_init (hr.mono (by decide)) rfl (glo_Desk T) b0_Desk_init v0_Desk_init (fun σ => passAt tk σ) (pa_cons (pv 2) pa_nil))))) (fun a oe cls d pn hz hf => (pss_one (ps_set (i := 4) sc_l_begun.nd rfl (Or.inl rfl) (pe_xf (xf_NoText T) (xn_NoText_row T) hz hf (pv 5))))))
        (pss_one (ps_ret (pe_cmpR op_eq (pv 4) (pv 3) (nomark _)))))))), ?_⟩
    walk_at "wks"
    rename_i p1 H1 f1 s1 h1 p2 H2 f2 s2 h2 p3 H3 f3 s3 h3 p4 H4 f4 s4 h4 p5 H5 f5 s5 h5 p6 H6 f6 s6 h6 pL H7 f7 s7 h7
    obtain ⟨p, v, r, hat, hp, hb⟩ : ∃ (p : Addr) (v : V) (r : Int), atI [V.ref p1, V.ref p2, V.ref p3, V.ref p4, V.ref p5, V.ref p6] (c % 6) = some (.ref p) ∧ H7 p = some (.tup [v, .int r]) ∧ BadText v r := by
      rcases (by omega : c % 6 = 0 ∨ c % 6 = 1 ∨ c % 6 = 2 ∨ c % 6 = 3 ∨ c % 6 = 4 ∨ c % 6 = 5) with e | e | e | e | e | e <;> rw [e]
      · exact ⟨p1, _, _, rfl, s7 _ _ (s6 _ _ (s5 _ _ (s4 _ _ (s3 _ _ (s2 _ _ h1))))), .inr (.inr ⟨_, _, 1, rfl, rfl, wrong1⟩)⟩
      · exact ⟨p2, _, _, rfl, s7 _ _ (s6 _ _ (s5 _ _ (s4 _ _ (s3 _ _ h2)))), .inl ⟨rfl, rfl⟩⟩
      · exact ⟨p3, _, _, rfl, s7 _ _ (s6 _ _ (s5 _ _ (s4 _ _ h3))), .inr (.inr ⟨_, _, 1, rfl, rfl, wrong2⟩)⟩
      · exact ⟨p4, _, _, rfl, s7 _ _ (s6 _ _ (s5 _ _ h4)), .inr (.inr ⟨_, _, 0, rfl, rfl, wrong3⟩)⟩
      · exact ⟨p5, _, _, rfl, s7 _ _ (s6 _ _ h5), .inr (.inl ⟨rfl, rfl⟩)⟩
      · exact ⟨p6, _, _, rfl, s7 _ _ h6, .inr (.inr ⟨_, _, 2, rfl, rfl, wrong4⟩)⟩
    have s07 := (((((s1.trans s2).trans s3).trans s4).trans s5).trans s6).trans s7
    walk_at "wks"
    intro a b H8 f8 s8 h8
    refine ⟨a, b, v, rfl, h8, .inr ⟨r, hb, fun d G sG hd => ⟨true, exm_NoText_NoText T, fun _ a2 ha2 => ?_, fun q => nomatch q⟩⟩⟩
    repeat (first | (refine ⟨_, rfl, rfl, rfl, _, _, _, rfl, (by walk_at "hp"), (by walk_at "lk"), ?_⟩) | (refine ⟨rfl, rfl, _, _, _, rfl, (by walk_at "hp"), (by walk_at "lk"), ?_⟩) | walk_at "wk")
    show Q (V.bl (decide (V.int r = V.int r))) G
    rw [decide_eq_true rfl]
    exact k _ ((s07.trans s8).trans sG)
/-! ### plain: rows in order -/
theorem lt4_of2 {x y : Row4} (h : lt2 x y) : lt4 x y := by
  rcases h with h | ⟨h1, h2⟩
  · exact .inl h
  · exact .inr ⟨h1, .inl h2⟩
theorem lt4_of_i {x y : Row4} (h1 : x.t = y.t) (h2 : x.h = y.h) (h3 : x.i < y.i) : lt4 x y := .inr ⟨h1, .inr ⟨h2, .inl h3⟩⟩
theorem lt2_of4 {x y : Row4} (h : lt4 x y) : lt2 x y ∨ (x.t = y.t ∧ x.h = y.h) := by
  rcases h with h | ⟨h1, h | ⟨h2, _⟩⟩
  · exact .inl (.inl h)
  · exact .inl (.inr ⟨h1, h⟩)
  · exact .inr ⟨h1, h2⟩
theorem sto2 : Sto (lexP (fun a b : Int => a < b) ltStr) := Sto.int.lex Sto.str
theorem tri2 (x y : Row4) : lt2 x y ∨ (x.t = y.t ∧ x.h = y.h) ∨ lt2 y x := by
  rcases sto2.tri (x.t, x.h) (y.t, y.h) with h | h | h
  · exact .inl h
  · exact .inr (.inl (Prod.mk.inj h))
  · exact .inr (.inr h)
theorem lt2_tr {x y z : Row4} (h : lt2 x y ∨ (x.t = y.t ∧ x.h = y.h)) (k : lt2 y z ∨ (y.t = z.t ∧ y.h = z.h)) : lt2 x z ∨ (x.t = z.t ∧ x.h = z.h) := by
  rcases h with h | ⟨h1, h2⟩
  · rcases k with k | ⟨k1, k2⟩
    · exact .inl (sto2.tr h k)
    · unfold lt2 at h ⊢
      rw [← k1, ← k2]
      exact .inl h
  · unfold lt2 at k ⊢
    rw [h1, h2]
    exact k
theorem put_ord {R : List Row4} {e : Row4} {i : Nat} (ho : R.Pairwise lt4) (hi : ∀ b ∈ R, b.i < e.i) (hle : i ≤ R.length) (h1 : ∀ j b, i ≤ j → R[j]? = some b → lt2 e b) (h2 : ∀ b, 0 < i → R[i - 1]? = some b → ¬ lt2 e b) :
    (R.take i ++ [e] ++ R.drop i).Pairwise lt4 := by
  have ho2 : (R.take i ++ R.drop i).Pairwise lt4 := by
    rw [List.take_append_drop]
    exact ho
  obtain ⟨p1, p2, p3⟩ := List.pairwise_append.mp ho2
  have ae : ∀ a ∈ R.take i, lt4 a e := by
    intro a ha
    have hpos : 0 < i := by
      rcases Nat.eq_zero_or_pos i with e0 | e0
      · rw [e0, List.take_zero] at ha
        cases ha
      · exact e0
    obtain ⟨b, hb⟩ : ∃ b, R[i - 1]? = some b := ⟨_, List.getElem?_eq_getElem (by omega)⟩
    have nb := h2 b hpos hb
    have hab : lt2 a b ∨ (a.t = b.t ∧ a.h = b.h) := by
      obtain ⟨j, hj, rfl⟩ := List.mem_iff_getElem.mp ha
      rw [List.length_take] at hj
      rw [List.getElem_take]
      by_cases ej : j = i - 1
      · refine .inr ?_
        have : R[j]? = some b := by rw [ej]; exact hb
        rw [List.getElem?_eq_getElem (by omega)] at this
        rw [Option.some.inj this]
        exact ⟨rfl, rfl⟩
      · rw [List.getElem?_eq_getElem (by omega)] at hb
        rw [← Option.some.inj hb]
        exact lt2_of4 (List.pairwise_iff_getElem.mp ho j (i - 1) (by omega) (by omega) (by omega))
    have hbe : lt2 b e ∨ (b.t = e.t ∧ b.h = e.h) := by
      rcases tri2 e b with q | q | q
      · exact absurd q nb
      · exact .inr ⟨q.1.symm, q.2.symm⟩
      · exact .inl q
    rcases lt2_tr hab hbe with q | ⟨q1, q2⟩
    · exact lt4_of2 q
    · exact lt4_of_i q1 q2 (hi a (List.mem_of_mem_take ha))
  refine List.pairwise_append.mpr ⟨List.pairwise_append.mpr ⟨p1, List.pairwise_singleton _ _, fun a ha b hb => ?_⟩, p2, fun a ha b hb => ?_⟩
  · rw [List.mem_singleton.mp hb]
    exact ae a ha
  · rcases List.mem_append.mp ha with ha | ha
    · exact p3 a ha b hb
    · rw [List.mem_singleton.mp ha]
      obtain ⟨j, hj, rfl⟩ := List.mem_iff_getElem.mp hb
      rw [List.length_drop] at hj
      rw [List.getElem_drop]
      exact lt4_of2 (h1 (i + j) _ (by omega) (List.getElem?_eq_getElem (by omega)))
theorem uniq {l1 l2 : List Row4} (p : l1.Perm l2) (h1 : l1.Pairwise (fun x y => ¬ lt4 y x)) (h2 : l2.Pairwise lt4) : l1 = l2 := by
  refine List.Perm.eq_of_pairwise (le := fun x y => ¬ lt4 y x) (fun a b _ _ q1 q2 => ?_) h1 (h2.imp fun {a b} q z => Sto.four.irr a (Sto.four.tr q z)) p
  rcases Sto.four.tri a b with z | z | z
  · exact absurd z q2
  · exact z
  · exact absurd z q1
/-! ### what the law keeps beside the desk -/
theorem no_text {K : PySem.W.Frag} {H : Hp} {v : V} {u : Value} (h : TyX K H v u) (e : PySem.W.kitOne K u (.type "str") = some false) : IsA K H v "str" false := ⟨u, h, e⟩
theorem Dk.butL {K : PySem.W.Frag} {H H' : Hp} {d dx pb ph pl : Addr} {es : List (Addr × Row4)} {f : Str → Int} {n : Nat} (D : Dk K H d dx pb ph pl es f n) {a : Addr} {l : List V} (m : But a H H') (ha : H a = some (.lst l)) (ne : a ≠ ph) : Dk K H' d dx pb ph pl es f n :=
  ⟨m _ _ (ne_of D.hd ha (by intro z; cases z)) D.hd, m _ _ ne.symm D.hh, fun b hb => m _ _ (ne_of (D.he b hb) ha (by intro z; cases z)) (D.he b hb), D.hl.imp fun _ q => ⟨m _ _ (ne_of q.1 ha (by intro z; cases z)) q.1, q.2⟩, D.len⟩
theorem Dk.butD {K : PySem.W.Frag} {H H' : Hp} {d dx pb ph pl : Addr} {es : List (Addr × Row4)} {f : Str → Int} {n : Nat} (D : Dk K H d dx pb ph pl es f n) {a : Addr} {l : List (Key × V)} (m : But a H H') (ha : H a = some (.dK l)) (ne : a ≠ pl) : Dk K H' d dx pb ph pl es f n :=
  ⟨m _ _ (ne_of D.hd ha (by intro z; cases z)) D.hd, m _ _ (ne_of D.hh ha (by intro z; cases z)) D.hh, fun b hb => m _ _ (ne_of (D.he b hb) ha (by intro z; cases z)) (D.he b hb), D.hl.imp fun _ q => ⟨m _ _ ne.symm q.1, q.2⟩, D.len⟩
structure Sta (K : PySem.W.Frag) (H : Hp) (d dx pb ph pl pR pM : Addr) (es R : List (Addr × Row4)) (f : Str → Int) (n : Nat) : Prop where
  D : Dk K H d dx pb ph pl es f n
  hr : H pR = some (.lst (R.map fun b => V.ref b.1))
  hR : ∀ b ∈ R, H b.1 = some (.tup (vs3 b.2))
  hm : ∃ kvs, H pM = some (.dK kvs) ∧ Lasts kvs f n
  ord : (R.map Prod.snd).Pairwise lt4
  perm : (R.map Prod.snd).Perm (es.map Prod.snd)
  idx : ∀ b ∈ es, b.2.i < n
  fb : ∀ h, 0 ≤ f h ∧ f h ≤ 40 * (n : Int)
  nR : pR ≠ ph
  nM : pM ≠ pl
variable {K : PySem.W.Frag} {H H' : Hp} {d dx pb ph pl pR pM : Addr} {es R : List (Addr × Row4)} {f : Str → Int} {n : Nat}
theorem Sta.same (S : Sta K H d dx pb ph pl pR pM es R f n) (s : Same H H') : Sta K H' d dx pb ph pl pR pM es R f n :=
  ⟨S.D.same s, s _ _ S.hr, fun b hb => s _ _ (S.hR b hb), S.hm.imp fun _ q => ⟨s _ _ q.1, q.2⟩, S.ord, S.perm, S.idx, S.fb, S.nR, S.nM⟩
theorem Sta.butL (S : Sta K H d dx pb ph pl pR pM es R f n) {a : Addr} {l : List V} (m : But a H H') (ha : H a = some (.lst l)) (n1 : a ≠ ph) (n2 : a ≠ pR) : Sta K H' d dx pb ph pl pR pM es R f n :=
  ⟨S.D.butL m ha n1, m _ _ n2.symm S.hr, fun b hb => m _ _ (ne_of (S.hR b hb) ha (by intro z; cases z)) (S.hR b hb), S.hm.imp fun _ q => ⟨m _ _ (ne_of q.1 ha (by intro z; cases z)) q.1, q.2⟩, S.ord, S.perm, S.idx, S.fb, S.nR, S.nM⟩
theorem Sta.len (S : Sta K H d dx pb ph pl pR pM es R f n) : R.length = n := by
  have := S.perm.length_eq
  rw [List.length_map, List.length_map, S.D.len] at this
  exact this
/-- a row laid in: all that is kept -/
theorem Sta.put (S : Sta K H d dx pb ph pl pR pM es R f n) {hand : Str} {t : Int} {r : Str} (h1 : f hand ≤ t) (h2 : t ≤ f hand + 39) {i : Nat} (hi : i ≤ R.length)
    (o1 : ∀ j b, i ≤ j → R[j]? = some b → lt2 ⟨t, hand, n, r⟩ b.2) (o2 : ∀ b, 0 < i → R[i - 1]? = some b → ¬ lt2 ⟨t, hand, n, r⟩ b.2) {x y : Addr} {H2 : Hp}
    (D2 : Dk K H2 d dx pb ph pl (es ++ [(y, ⟨t, hand, n, r⟩)]) (setF f hand t) (n + 1))
    (hr2 : H2 pR = some (.lst ((R.take i ++ [(x, (⟨t, hand, n, r⟩ : Row4))] ++ R.drop i).map fun b => V.ref b.1)))
    (hR2 : ∀ b ∈ R, H2 b.1 = some (.tup (vs3 b.2))) (hx : H2 x = some (.tup (vs3 ⟨t, hand, n, r⟩))) {kvs : List (Key × V)} (hL : Lasts kvs f n) (hm2 : H2 pM = some (.dK (putK kvs (.inr hand) (.int t)))) :
    Sta K H2 d dx pb ph pl pR pM (es ++ [(y, ⟨t, hand, n, r⟩)]) (R.take i ++ [(x, ⟨t, hand, n, r⟩)] ++ R.drop i) (setF f hand t) (n + 1) := by
  refine ⟨D2, hr2, fun b hb => ?_, ⟨_, hm2, hL.put _ _⟩, ?_, ?_, fun b hb => ?_, fun h => ?_, S.nR, S.nM⟩
  · rcases List.mem_append.mp hb with hb | hb
    · rcases List.mem_append.mp hb with hb | hb
      · exact hR2 b (List.mem_of_mem_take hb)
      · rw [List.mem_singleton.mp hb]
        exact hx
    · exact hR2 b (List.mem_of_mem_drop hb)
  · rw [List.map_append, List.map_append, List.map_take, List.map_drop]
    refine put_ord S.ord (fun b hb => ?_) (by rw [List.length_map]; exact hi) (fun j b hj q => ?_) (fun b h0 q => ?_)
    · obtain ⟨c, hc, rfl⟩ := List.mem_map.mp (S.perm.mem_iff.mp hb)
      exact S.idx c hc
    · rw [List.getElem?_map, Option.map_eq_some_iff] at q
      obtain ⟨c, hc, rfl⟩ := q
      exact o1 j c hj hc
    · rw [List.getElem?_map, Option.map_eq_some_iff] at q
      obtain ⟨c, hc, rfl⟩ := q
      exact o2 c h0 hc
  · rw [List.map_append, List.map_append, List.map_append, List.append_assoc]
    refine (List.perm_append_comm_assoc _ _ _).trans ?_
    rw [← List.map_append, List.take_append_drop]
    exact (List.perm_append_comm).trans (S.perm.append_right _)
  · rcases List.mem_append.mp hb with hb | hb
    · have q := S.idx b hb
      show b.2.i < ((n + 1 : Nat) : Int)
      omega
    · rw [List.mem_singleton.mp hb]
      show (n : Int) < ((n + 1 : Nat) : Int)
      omega
  · have q1 := S.fb h
    have q2 := S.fb hand
    unfold setF
    split <;> omega
/-! ### odd rows -/
def tailB : List (List Nat) → Bool
  | wd :: rest => decide (SX.S wd ∈ formsKeys) && tksB (kindsOf (SX.S wd) rest) (wordsOf (SX.S wd) rest)
  | [] => false
def oddB (o : List Nat) : Bool := decide (TL.joinL [32] (FX.words 32 o) = o) && (decide (FX.words 32 o ≠ []) && ((FX.words 32 o).all (fun x => decide (32 ∉ x)) && (!tailB (FX.words 32 o) && decide (o.length ≤ 20))))
theorem join_2 {a b : List Nat} {ws : List (List Nat)} (h : ws ≠ []) : TL.joinL [32] (a :: b :: ws) = a ++ [32] ++ b ++ [32] ++ TL.joinL [32] ws := by
  cases ws with
  | nil => exact absurd rfl h
  | cons c r =>
    show a ++ ([32] ++ (b ++ ([32] ++ TL.joinL [32] (c :: r)))) = _
    simp only [List.append_assoc]
theorem odd_bad {hand o : List Nat} {m : Nat} (hh : lampB hand = true) (h : oddB o = true) : Bad (hand ++ [32] ++ TL.numL m ++ [32] ++ o) ∧ o.length ≤ 20 := by
  unfold oddB at h
  rw [Bool.and_eq_true, Bool.and_eq_true, Bool.and_eq_true, Bool.and_eq_true, decide_eq_true_eq, decide_eq_true_eq, decide_eq_true_eq, List.all_eq_true] at h
  obtain ⟨h1, h2, h3, h4, h5⟩ := h
  refine ⟨?_, h5⟩
  generalize FX.words 32 o = ws at h1 h2 h3 h4
  rw [← h1, ← join_2 h2]
  refine bad_join (List.cons_ne_nil _ _) (fun x hx => ?_) fun a t w ts q => ?_
  · rcases List.mem_cons.mp hx with rfl | hx
    · intro q
      have := (lamp_of hh).2.2 _ q
      omega
    rcases List.mem_cons.mp hx with rfl | hx
    · exact TL.numL_free (.inl (by decide))
    · exact of_decide_eq_true (h3 x hx)
  · have r := rowB_of q
    cases ws with
    | nil => exact h2 rfl
    | cons wd rest =>
      have r : (lampB hand && ((whole (TL.numL m) 999999999999).isSome && tailB (wd :: rest))) = true := r
      rw [Bool.and_eq_true, Bool.and_eq_true] at r
      rw [r.2.2] at h4
      cases h4
theorem odd_fixed {s : Str} (h : oddB s.cps.toList = true := by decide +kernel) : ∃ o : List Nat, V.str s = V.str (SX.S o) ∧ oddB o = true := ⟨_, by rw [SX.S_tl], h⟩
def spTold (K : PySem.W.Frag) : Sp := fun vs H Q _ => ∃ (d dx pb ph pl pR pM : Addr) (es R : List (Addr × Row4)) (f : Str → Int) (n : Nat) (hand : List Nat) (z : Int), vs = [.ref d, .ref pR, .ref pM, .str (SX.S hand), .int z] ∧ Sta K H d dx pb ph pl pR pM es R f n ∧ n < 64 ∧ lampB hand = true ∧ 0 ≤ z ∧
  ∀ (es' R' : List (Addr × Row4)) (f' : Str → Int) H', ButM [ph, pl, pR, pM] H H' → Sta K H' d dx pb ph pl pR pM es' R' f' (n + 1) → Q (.bl true) H'
theorem ok_l_told (T : Txt K mg) (TB : L2.FormsD K w (He.ga K "FORMS") formsKeys) : ∃ fd, FnOk P w K mg base CX0 11 (He.fAd K ("_law_told", none)) fd ["_law_desk", "_law_rows", "_law_lasts", "_law_hand", "_law_number_here"] (spTold K) ∧ FunD K "_law_told" "_law_told" (defArgs s_l_told) (defBody s_l_told) (defScope s_l_told) [] [] (He.fAd K ("_law_told", none)) fd := by
  obtain ⟨fd, F⟩ := T.c.def_ 34 (d := d_l_told) rfl
  obtain ⟨fd_l_put, G_l_put, F_l_put⟩ := ok_l_put (P := P) (w := w) (base := base) T
  have kp_l_put := F_l_put.kp
  have b_l_put : Binds K fd_l_put ["_law_rows", "_law_row"] [] := FunD.bindsN F_l_put (fun _ _ _ _ _ _ us hl => match us, hl with | [_, _], _ => rfl)
  obtain ⟨fd_l_text, G_l_text, F_l_text⟩ := ok_l_text (P := P) (w := w) (base := base) T
  have kp_l_text := F_l_text.kp
  have b_l_text : Binds K fd_l_text ["_law_hand", "_law_tick", "_law_number_here"] [] := FunD.bindsN F_l_text (fun _ _ _ _ _ _ us hl => match us, hl with | [_, _, _], _ => rfl)
  obtain ⟨fd_Desk_hear, G_Desk_hear, F_Desk_hear⟩ := ok_Desk_hear (P := P) (w := w) (base := base) T TB
  have kp_Desk_hear := F_Desk_hear.kp
  have b_Desk_hear : Binds K fd_Desk_hear ["self", "row"] [] := FunD.bindsN F_Desk_hear (fun _ _ _ _ _ _ us hl => match us, hl with | [_, _], _ => rfl)
  obtain ⟨fd_l_refused, G_l_refused, F_l_refused⟩ := ok_l_refused (P := P) (w := w) (base := base) T TB
  have kp_l_refused := F_l_refused.kp
  have b_l_refused : Binds K fd_l_refused ["_law_desk", "_law_row", "_law_late"] [] := FunD.bindsN F_l_refused (fun _ _ _ _ _ _ us hl => match us, hl with | [_, _, _], _ => rfl)
  refine ⟨fd, F.ok sc_l_told (by walk_at "g94len") (fun cdv A outer st H vs Q E hr h => ?_), F⟩
  · obtain ⟨d, dx, pb, ph, pl, pR, pM, es, R, f, n, hand, z, rfl, S, hn, hh, z0, k⟩ := h
    refine ⟨_, PSs.nox (pss_cons (ps_set (i := 5) sc_l_told.nd rfl (Or.inl rfl) (pe_dget2K (hu_of hr) (pv 2) (pv 3) pe_int ⟨rfl, rfl, rfl, rfl⟩))
        (pss_cons (ps_set (i := 6) sc_l_told.nd rfl (Or.inl rfl) (pe_op op_add (pv 5) (pe_op op_mul (pe_op op_mod (pe_op op_fdiv (pv 4) pe_int) pe_int) (pe_callTy call_int1 (by rfl) (free_int T) (by decide +kernel) (pa_cons (pe_cmpR op_gt (pe_op op_mod (pe_op op_fdiv (pv 4) pe_int) pe_int) pe_int (nomark _)) pa_nil)))))
        (C8.pss_cut (ps_if (PW.pt (pw_and (pt_cmpR op_eq (pe_op op_mod (pv 4) pe_int) pe_int (nomark _)) (pw_and1 (pt_cmpR op_gt (pv 5) pe_int (nomark _))))) (pss_cons (ps_set (i := 7) sc_l_told.nd rfl (Or.inl rfl) (pe_op op_sub (pe_op op_sub (pv 5) pe_int) (pe_op op_mod (pe_op op_fdiv (pv 4) pe_int) (pv 5))))
        (pss_cons (ps_if (pt_not (pt_val (pe_call G_l_refused (hr.mono (by decide)) rfl (glo__law_refused T) kp_l_refused b_l_refused .nil pass0 (pa_cons (pv 0) (pa_cons (pe_call G_l_text (hr.mono (by decide)) rfl (glo__law_text T) kp_l_text b_l_text .nil pass0 (pa_cons (pv 3) (pa_cons (pv 7) (pa_cons (pe_op op_fdiv (pv 4) pe_int) pa_nil)))) (pa_cons pe_bl pa_nil)))))) (pss_one (ps_ret pe_bl)) pss_nil)
        (pss_cons (ps_if (pt_not (pt_val (pe_call G_l_refused (hr.mono (by decide)) rfl (glo__law_refused T) kp_l_refused b_l_refused .nil pass0 (pa_cons (pv 0) (pa_cons (pe_call G_l_text (hr.mono (by decide)) rfl (glo__law_text T) kp_l_text b_l_text .nil pass0 (pa_cons (pv 3) (pa_cons (pe_op op_sub (pe_op op_sub (pv 5) pe_int) (pe_op op_mod (pe_op op_fdiv (pv 4) pe_int) (pv 5))) (pa_cons (pe_op op_fdiv (pv 4) pe_int) pa_nil)))) (pa_cons pe_bl pa_nil)))))) (pss_one (ps_ret pe_bl)) pss_nil)
        (pss_one (ps_set (i := 6) sc_l_told.nd rfl (Or.inl rfl) (pv 5)))))) pss_nil)
        (C8.pss_cut (ps_if (pt_cmpR op_eq (pe_op op_mod (pe_op op_fdiv (pv 4) pe_int) pe_int) pe_int (nomark _)) (pss_cons (ps_set (i := 8) sc_l_told.nd rfl (Or.inl rfl) (pe_ix ix_list (pe_lstK (pa_cons pe_str (pa_cons pe_str (pa_cons pe_str (pa_cons pe_str (pa_cons pe_str (pa_cons pe_str pa_nil))))))) (pe_op op_mod (pe_op op_fdiv (pv 4) pe_int) pe_int) (fun _ _ => rfl)))
        (pss_cons (ps_set (i := 9) sc_l_told.nd rfl (Or.inl rfl) (pe_callB (call_max2 rfl) (by rfl) (free_max T) (by decide +kernel) (pa_cons pe_int (pa_cons (pe_op op_add (pv 6) (pe_ix ix_list (pe_lstK (pa_cons pe_int (pa_cons pe_negC (pa_cons pe_int (pa_cons pe_negC pa_nil))))) (pe_op op_mod (pe_op op_fdiv (pv 4) pe_int) pe_int) (fun _ _ => rfl))) pa_nil))))
        (pss_cons (ps_if (pt_not (pt_val (pe_call G_l_refused (hr.mono (by decide)) rfl (glo__law_refused T) kp_l_refused b_l_refused .nil pass0 (pa_cons (pv 0) (pa_cons (pe_op op_add_str (pe_op op_add_str (pe_op op_add_str (pe_op op_add_str (pv 3) pe_str) (pe_callTy call_str_int (by rfl) (free_str T) (by decide +kernel) (pa_cons (pv 9) pa_nil))) pe_str) (pv 8)) (pa_cons pe_bl pa_nil)))))) (pss_one (ps_ret pe_bl)) pss_nil)
        (pss_one (ps_if (pt_not (pt_val (pe_call G_l_refused (hr.mono (by decide)) rfl (glo__law_refused T) kp_l_refused b_l_refused .nil pass0 (pa_cons (pv 0) (pa_cons (pe_ix ix_list (pe_lstK (pa_cons pe_non (pa_cons pe_int (pa_cons (pe_lstK (pa_cons (pe_op op_add_str (pv 3) pe_str) pa_nil)) (pa_cons pe_bl (pa_cons (pe_tupK (pa_cons pe_str pa_nil)) pa_nil)))))) (pe_op op_mod (pe_op op_fdiv (pv 4) pe_int) pe_int) (fun _ _ => rfl)) (pa_cons pe_bl pa_nil)))))) (pss_one (ps_ret pe_bl)) pss_nil))))) pss_nil)
        (pss_cons (ps_set (i := 10) sc_l_told.nd rfl (Or.inl rfl) (pe_tupK (pa_cons (pv 6) (pa_cons (pv 3) (pa_cons (pe_call G_l_text (hr.mono (by decide)) rfl (glo__law_text T) kp_l_text b_l_text .nil pass0 (pa_cons (pv 3) (pa_cons (pv 6) (pa_cons (pe_op op_fdiv (pv 4) pe_int) pa_nil)))) pa_nil)))))
        (pss_cons (ps_if (pt_cmpR op_notN (pe_meth (pv 0) (cls_Desk T) (m_Desk_hear T) G_Desk_hear (hr.mono (by decide)) b_Desk_hear .nil (passes_call takes0 (fun _ _ _ _ h => h)) (pa_cons (pe_ix ix_tup (pv 10) pe_int (fun _ _ => rfl)) pa_nil)) pe_non (nomark _)) (pss_one (ps_ret pe_bl)) pss_nil)
        (pss_cons (ps_dputKK (hu_of hr) (pv 2) (pv 3) (pv 6) rfl)
        (pss_cons (ps_expr (pe_call G_l_put (hr.mono (by decide)) rfl (glo__law_put T) kp_l_put b_l_put .nil pass0 (pa_cons (pv 1) (pa_cons (pv 10) pa_nil))))
        (pss_one (ps_ret pe_bl)))))))))), ?_⟩
    obtain ⟨kvs, hM, hL⟩ := S.hm
    have hd := S.D.hd
    unfold DkO at hd
    have fb := S.fb (SX.S hand)
    walk_at "wks"
    refine ⟨.inr (SX.S hand), rfl, hM, ?_⟩
    rw [hL.2]
    obtain ⟨F, hF⟩ : ∃ F, F = f (SX.S hand) := ⟨_, rfl⟩
    rw [← hF] at fb ⊢
    walk_at "wks"
    refine .inr ⟨_, rfl, ?_⟩
    have hb : ∀ q : Bool, 0 ≤ z / 7 % 40 * (if q = true then (1 : Int) else 0) ∧ z / 7 % 40 * (if q = true then (1 : Int) else 0) ≤ 39 := fun q => by cases q <;> simp <;> omega
    generalize (decide (0 < z / 3 % 3)) = bb
    replace hb := hb bb
    walk_at "wks"
    generalize z / 7 % 40 * (if bb = true then (1 : Int) else 0) = add at hb ⊢
    have D := S.D
    have hn1 : n ≤ 100 := by omega
    have z9 : ∀ m : Int, 0 < m → 0 ≤ z / m := fun m hm => Int.ediv_nonneg z0 (by omega)
    walk_at "wks"
    refine ⟨fun σ' H' => ∃ (t : Int) (v : Option V), σ' = [some (.ref d), some (.ref pR), some (.ref pM), some (.str (SX.S hand)), some (.int z), some (.int F), some (.int t), v, none, none, none] ∧ F ≤ t ∧ t ≤ F + 39 ∧ Same H H', ?_, ?_⟩
    · walk_at "wks"
      walk_at "ri" <;> intro c1
      · walk_at "wks"
        walk_at "ri" <;> intro c2
        · walk_at "wks"
          have r1 := Int.emod_nonneg (z / 6) (show F ≠ 0 by omega)
          have r2 := Int.emod_lt_of_pos (z / 6) (show 0 < F by omega)
          have r3 := Int.emod_nonneg (z / 17) (show F ≠ 0 by omega)
          have r4 := Int.emod_lt_of_pos (z / 17) (show 0 < F by omega)
          refine ⟨by omega, ?_⟩
          walk_at "wks"
          intro l w' ts H1 hri hl s1
          walk_at "wks"
          refine ⟨d, dx, pb, ph, pl, _, es, f, n, true, rfl, D.same s1, hn1, .inr ⟨rfl, l, hand, _, w', ts, rfl, hl, hri, by rw [← hF]; omega⟩, fun H2 s2 => ?_⟩
          walk_at "wks"
          intro l3 w3 ts3 H3 hri3 hl3 s3
          walk_at "wks"
          have s13 := (s1.trans s2).trans s3
          refine ⟨d, dx, pb, ph, pl, _, es, f, n, true, rfl, D.same s13, hn1, .inr ⟨rfl, l3, hand, _, w3, ts3, rfl, hl3, hri3, by rw [← hF]; omega⟩, fun H4 s4 => ?_⟩
          walk_at "wks"
          exact s13.trans s4
        · walk_at "wks"
          exact Same.refl _
      · walk_at "wks"
        exact Same.refl _
    rintro σ' H1 ⟨t, v, rfl, t1, t2, s1⟩
    walk_at "wks"
    refine ⟨fun σ' H' => ∃ (v1 v2 v3 : Option V), σ' = [some (.ref d), some (.ref pR), some (.ref pM), some (.str (SX.S hand)), some (.int z), some (.int F), some (.int t), v1, v2, v3, none] ∧ Same H H', ?_, ?_⟩
    · walk_at "wks"
      walk_at "ri" <;> intro c1
      · obtain ⟨o, hat, ho⟩ : ∃ o : List Nat, atI [V.str "gone", V.str "jump", V.str "move f 1001", V.str "goto 0", V.str "", V.str "go go"] (z / 99 % 6) = some (.str (SX.S o)) ∧ oddB o = true := by
          have pk : ∀ (i : Int) (s : Str), atI [V.str "gone", V.str "jump", V.str "move f 1001", V.str "goto 0", V.str "", V.str "go go"] i = some (.str s) → oddB s.cps.toList = true → ∃ o : List Nat, atI [V.str "gone", V.str "jump", V.str "move f 1001", V.str "goto 0", V.str "", V.str "go go"] i = some (.str (SX.S o)) ∧ oddB o = true := fun i s h1 h2 => ⟨_, by rw [SX.S_tl]; exact h1, h2⟩
          rcases (by omega : z / 99 % 6 = 0 ∨ z / 99 % 6 = 1 ∨ z / 99 % 6 = 2 ∨ z / 99 % 6 = 3 ∨ z / 99 % 6 = 4 ∨ z / 99 % 6 = 5) with e | e | e | e | e | e <;> rw [e] <;> exact pk _ _ rfl (by decide +kernel)
        obtain ⟨vj, hvj, v0, v1⟩ : ∃ vj : Int, atI [V.int 0, V.int (-1), V.int 500, V.int (-2)] (z / 13 % 4) = some (.int vj) ∧ -2 ≤ vj ∧ vj ≤ 500 := by
          rcases (by omega : z / 13 % 4 = 0 ∨ z / 13 % 4 = 1 ∨ z / 13 % 4 = 2 ∨ z / 13 % 4 = 3) with e | e | e | e <;> rw [e] <;> exact ⟨_, rfl, by omega, by omega⟩
        have lh := (lamp_of hh).2.1
        have zz : ∀ x y : List Nat, x.length ≤ 100 → y.length ≤ 100 → (SX.S x).length + (SX.S y).length ≤ sizeLine := fun a b h1 h2 => by
          rw [len_S, len_S]
          exact small_size (by omega)
        have eb : Str.ofString " " = SX.S [32] := by decide +kernel
        have e5 : Str.ofString " 5 go" = SX.S [32, 53, 32, 103, 111] := by decide +kernel
        walk_at "wks"
        rename_i p1 G1 f1 g1 h1 p2 G2 f2 g2 h2
        have s12 := (s1.trans g1).trans g2
        obtain ⟨m, hm, hm2⟩ : ∃ m : Nat, (if t + vj > 0 then t + vj else 0) = m ∧ m ≤ 4000 := by
          refine ⟨(if t + vj > 0 then t + vj else 0).toNat, ?_, ?_⟩ <;> split <;> omega
        have gm : ((m : Nat) : Int).natAbs.log2 < 1920 := lg (by omega)
        have lm := TL.numL_len (n := m) (k := 12) (by decide) (by show m < 1000000000000; omega)
        obtain ⟨hbad, lo⟩ := odd_bad (m := m) hh ho
        have lens : (hand ++ [32]).length ≤ 10 ∧ (hand ++ [32] ++ TL.numL m).length ≤ 30 ∧ (hand ++ [32] ++ TL.numL m ++ [32]).length ≤ 31 ∧ (hand ++ [32] ++ TL.numL m ++ [32] ++ o).length ≤ 51 := by
          simp only [List.length_append, List.length_cons, List.length_nil]
          omega
        rw [hm, eb]
        refine ⟨zz _ _ (by omega) (by decide), ?_⟩
        rw [SX.S_cat]
        walk_at "wks"
        rw [str_num]
        refine ⟨zz _ _ (by omega) (by omega), ?_⟩
        rw [SX.S_cat]
        walk_at "wks"
        refine ⟨zz _ _ (by omega) (by decide), ?_⟩
        rw [SX.S_cat]
        walk_at "wks"
        refine ⟨zz _ _ (by omega) (by omega), ?_⟩
        rw [SX.S_cat]
        walk_at "wks"
        refine ⟨d, dx, pb, ph, pl, _, es, f, n, false, rfl, D.same s12, hn1, .inl ⟨rfl, .inr ⟨_, rfl, hbad, by omega⟩⟩, fun H3 s3 => ?_⟩
        have s03 := s12.trans s3
        walk_at "wks"
        rw [e5]
        refine ⟨zz _ _ (by omega) (by decide), ?_⟩
        rw [SX.S_cat]
        walk_at "wks"
        rename_i p3 G3 f3 g3 h3 p4 G4 f4 g4 h4 p5 G5 f5 g5 h5
        have g35 := (g3.trans g4).trans g5
        obtain ⟨vv, hvv, isv⟩ : ∃ vv : V, atI [V.non, V.int 5, V.ref p3, V.bl true, V.ref p4] (z / 52 % 5) = some vv ∧ IsA K G5 vv "str" false := by
          rcases (by omega : z / 52 % 5 = 0 ∨ z / 52 % 5 = 1 ∨ z / 52 % 5 = 2 ∨ z / 52 % 5 = 3 ∨ z / 52 % 5 = 4) with e | e | e | e | e <;> rw [e]
          · exact ⟨_, rfl, no_text (.base .non) (kit_ty (by decide +kernel))⟩
          · exact ⟨_, rfl, no_text (.base (.int _)) (kit_ty (by decide +kernel))⟩
          · exact ⟨_, rfl, no_text (.base (.lst (g5 _ _ (g4 _ _ h3)))) (kit_ty (by decide +kernel))⟩
          · exact ⟨_, rfl, no_text (.base (.bl _)) (kit_ty (by decide +kernel))⟩
          · exact ⟨_, rfl, no_text (.base (.tup (g5 _ _ h4))) (kit_ty (by decide +kernel))⟩
        have s05 := s03.trans g35
        walk_at "wks"
        refine ⟨d, dx, pb, ph, pl, vv, es, f, n, false, rfl, D.same s05, hn1, .inl ⟨rfl, .inl isv⟩, fun H6 s6 => ?_⟩
        walk_at "wks"
        exact s05.trans s6
      · walk_at "wks"
        exact s1
    rintro σ' H2 ⟨v1, v2, v3, rfl, s2⟩
    walk_at "wks"
    intro l w' ts H3 hri hl s3
    walk_at "wks"
    rename_i x0 H4 f4 s4 h4
    have s04 := (s2.trans s3).trans s4
    refine ⟨d, dx, pb, ph, pl, _, es, f, n, rfl, D.same s04, hn1, .inr ⟨l, hand, t, w', ts, rfl, hl, hri, .inr ⟨by rw [← hF]; exact t1, fun x H5 m5 fx D5 => ?_⟩⟩⟩
    walk_at "wks"
    have S4 := S.same s04
    have hM4 := s04 _ _ hM
    have hh4 := S4.D.hh
    obtain ⟨kv2, hl4, _⟩ := S4.D.hl
    have nMh : pM ≠ ph := ne_of hM4 hh4 (by intro z; cases z)
    have nRl : pR ≠ pl := ne_of S4.hr hl4 (by intro z; cases z)
    have nRM : pR ≠ pM := ne_of S4.hr hM4 (by intro z; cases z)
    have out : ∀ (b : Addr) (xs : List V), H4 b = some (.tup xs) → b ∉ [ph, pl, pR, pM] := fun b xs hb q => by
      simp only [List.mem_cons, List.not_mem_nil, or_false] at q
      rcases q with rfl | rfl | rfl | rfl
      · exact absurd (hb.symm.trans hh4) (by intro z; cases z)
      · exact absurd (hb.symm.trans hl4) (by intro z; cases z)
      · exact absurd (hb.symm.trans S4.hr) (by intro z; cases z)
      · exact absurd (hb.symm.trans hM4) (by intro z; cases z)
    have hM5 := m5 _ _ (by simp [nMh, S.nM]) hM4
    have kl := hL.1
    refine ⟨pM, kvs, .inr (SX.S hand), rfl, rfl, hM5, szlt (by omega), fun H6 m6 h6 => ?_⟩
    have D6 := D5.butD m6 hM5 S.nM
    have m46 : ButM [ph, pl, pR, pM] H4 H6 := (m5.mono (by simp)).trans (.ofBut m6 (by simp))
    have hr6 := m6 _ _ nRM (m5 _ _ (by simp [nRl, S.nR]) S4.hr)
    have hR6 : ∀ b ∈ R, H6 b.1 = some (.tup (vs3 b.2)) := fun b hb => m46 _ _ (out _ _ (S4.hR b hb)) (S4.hR b hb)
    have hx6 := m46 _ _ (out _ _ h4) h4
    have rl := S.len
    walk_at "wks"
    refine ⟨pR, x0, R, ⟨t, SX.S hand, n, SX.S l⟩, rfl, hr6, hR6, hx6, by omega, fun i H7 hi o1 o2 m7 h7 => ?_⟩
    have m47 : ButM [ph, pl, pR, pM] H4 H7 := m46.trans (.ofBut m7 (by simp))
    walk_at "wks"
    refine k _ _ _ H7 ((ButM.ofSame s04).trans m47) (S.put (by rw [← hF]; exact t1) (by rw [← hF]; exact t2) hi o1 o2 (D6.butL m7 hr6 S.nR) h7 (fun b hb => m47 _ _ (out _ _ (S4.hR b hb)) (S4.hR b hb)) (m47 _ _ (out _ _ h4) h4) hL (m7 _ _ nRM.symm h6))
/-! ### the law -/
theorem Sta.texts {K : PySem.W.Frag} {H : Hp} {d dx pb ph pl pR pM : Addr} {es R : List (Addr × Row4)} {f : Str → Int} {n : Nat} (S : Sta K H d dx pb ph pl pR pM es R f n) {out : List (Addr × Row4)} (hp : out.Perm es) (ho : out.Pairwise (fun x y => ¬ lt4 y.2 x.2)) :
    out.map (fun b => b.2.r) = R.map (fun b => b.2.r) := by
  have e : out.map Prod.snd = R.map Prod.snd := uniq ((hp.map _).trans S.perm.symm) (List.pairwise_map.mpr ho) S.ord
  have e2 := congrArg (List.map Row4.r) e
  rw [List.map_map, List.map_map] at e2
  exact e2
theorem ButM.same {M : List Addr} {H G H' : Hp} (m : ButM M G H') (s : Same H G) (f : ∀ a ∈ M, L2.Fr H a) : Same H H' := fun b u e => m b u (fun q => neF (f b q) e rfl) (s b u e)
theorem Sta.live {K : PySem.W.Frag} {H : Hp} {d dx pb ph pl pR pM : Addr} {es R : List (Addr × Row4)} {f : Str → Int} {n : Nat} (S : Sta K H d dx pb ph pl pR pM es R f n) {pX : Addr} {u : HO} (hX : H pX = some u) {M : List Addr} (eM : M = [ph, pl, pR, pM, pX]) {q : Addr} (fq : L2.Fr H q) : q ∉ M := fun hq => by
  obtain ⟨_, hl, _⟩ := S.D.hl
  obtain ⟨_, hm, _⟩ := S.hm
  rw [eM] at hq
  simp only [List.mem_cons, List.not_mem_nil, or_false] at hq
  rcases hq with rfl | rfl | rfl | rfl | rfl
  · exact neF2 fq S.D.hh rfl
  · exact neF2 fq hl rfl
  · exact neF2 fq S.hr rfl
  · exact neF2 fq hm rfl
  · exact neF2 fq hX rfl
/-- a kept pair of lists of the same texts -/
def HeldAt (M : List Addr) (H : Hp) (h : Addr × Addr × Addr × List Str) : Prop :=
  (h.1 ∉ M ∧ H h.1 = some (.lst [.ref h.2.1, .ref h.2.2.1])) ∧ (h.2.1 ∉ M ∧ H h.2.1 = some (.lst (h.2.2.2.map V.str))) ∧ (h.2.2.1 ∉ M ∧ H h.2.2.1 = some (.lst (h.2.2.2.map V.str)))
theorem HeldAt.on {M N : List Addr} {H H' : Hp} {h : Addr × Addr × Addr × List Str} (q : HeldAt M H h) (m : ButM N H H') (s : ∀ a ∈ N, a ∈ M) : HeldAt M H' h :=
  ⟨⟨q.1.1, m _ _ (fun z => q.1.1 (s _ z)) q.1.2⟩, ⟨q.2.1.1, m _ _ (fun z => q.2.1.1 (s _ z)) q.2.1.2⟩, ⟨q.2.2.1, m _ _ (fun z => q.2.2.1 (s _ z)) q.2.2.2⟩⟩
theorem HeldAt.but {M : List Addr} {H G H' : Hp} {h : Addr × Addr × Addr × List Str} (q : HeldAt M H h) (s : Same H G) {a : Addr} (m : But a G H') (f : L2.Fr H a) : HeldAt M H' h :=
  have k := s.but m f
  ⟨⟨q.1.1, k _ _ q.1.2⟩, ⟨q.2.1.1, k _ _ q.2.1.2⟩, ⟨q.2.2.1, k _ _ q.2.2.2⟩⟩
theorem paired_texts {K : PySem.W.Frag} {H : Hp} : ∀ zs : List Str, Paired (Alk K H) (zs.map V.str) (zs.map V.str)
  | [] => .nil
  | z :: zs => .cons (.inl ⟨rfl, .inl rfl⟩) (paired_texts zs)
def spLaw (K : PySem.W.Frag) : Sp := fun vs H Q _ => ∃ (a : Addr) (ns : List Int), vs = [.ref a] ∧ SqL K H a (ns.map V.int) ∧ ns.length ≤ 63 ∧ (∀ z ∈ ns, Builtin.Int.intBits z ≤ 1048576) ∧ Only H ∧ ∀ H', Q (.bl true) H'

theorem ok_law (T : Txt K mg) (TB : L2.FormsD K w (He.ga K "FORMS") formsKeys) : ∃ fd, FnOk P w K mg base CX0 12 (He.fAd K ("law", none)) fd ["_law_script"] (spLaw K) ∧ FunD K "law" "law" (defArgs s_law) (defBody s_law) (defScope s_law) [] [] (He.fAd K ("law", none)) fd := by
  obtain ⟨fd, F⟩ := T.c.def_ 36 (d := d_law) rfl
  obtain ⟨fd_Desk_init, G_Desk_init, F_Desk_init⟩ := ok_Desk_init (P := P) (w := w) (base := base) T
  have kp_Desk_init := F_Desk_init.kp
  obtain ⟨d0_Desk_init, v0_Desk_init, b0_Desk_init⟩ : ∃ ds, Vals ([V.str ""].drop 1) ds ∧ Binds K fd_Desk_init ["self", "text"] ds := F_Desk_init.binds1 2 1 (by decide) rfl (fun _ _ _ _ _ _ _ us its h1 h2 => match us, its, h1, h2 with | [_, _], [_], _, _ => ⟨_, rfl, rfl⟩)
  obtain ⟨d1_Desk_init, v1_Desk_init, b1_Desk_init⟩ : ∃ ds, Vals ([V.str ""].drop 0) ds ∧ Binds K fd_Desk_init ["self", "text"] ds := F_Desk_init.binds1 1 0 (by decide) rfl (fun _ _ _ _ _ _ _ us its h1 h2 => match us, its, h1, h2 with | [_], [_], _, _ => ⟨_, rfl, rfl⟩)
  obtain ⟨fd_l_names, G_l_names, F_l_names⟩ := ok_l_names (P := P) (w := w) (base := base) T
  have kp_l_names := F_l_names.kp
  have b_l_names : Binds K fd_l_names ["_law_cell"] [] := FunD.bindsN F_l_names (fun _ _ _ _ _ _ us hl => match us, hl with | [_], _ => rfl)
  obtain ⟨fd_Desk_rows, G_Desk_rows, F_Desk_rows⟩ := ok_Desk_rows (P := P) (w := w) (base := base) T
  have kp_Desk_rows := F_Desk_rows.kp
  have b_Desk_rows : Binds K fd_Desk_rows ["self"] [] := FunD.bindsN F_Desk_rows (fun _ _ _ _ _ _ us hl => match us, hl with | [_], _ => rfl)
  obtain ⟨fd_l_begun, G_l_begun, F_l_begun⟩ := ok_l_begun (P := P) (w := w) (base := base) T
  have kp_l_begun := F_l_begun.kp
  have b_l_begun : Binds K fd_l_begun ["_law_cell"] [] := FunD.bindsN F_l_begun (fun _ _ _ _ _ _ us hl => match us, hl with | [_], _ => rfl)
  obtain ⟨fd_l_number, G_l_number, F_l_number⟩ := ok_l_number (P := P) (w := w) (base := base) T
  have kp_l_number := F_l_number.kp
  have b_l_number : Binds K fd_l_number ["_law_cell", "_law_k"] [] := FunD.bindsN F_l_number (fun _ _ _ _ _ _ us hl => match us, hl with | [_, _], _ => rfl)
  obtain ⟨fd_l_same, G_l_same, F_l_same⟩ := ok_l_same (P := P) (w := w) (base := base) T
  have kp_l_same := F_l_same.kp
  have b_l_same : Binds K fd_l_same ["_law_found", "_law_rows"] [] := FunD.bindsN F_l_same (fun _ _ _ _ _ _ us hl => match us, hl with | [_, _], _ => rfl)
  obtain ⟨fd_l_cell_at, G_l_cell_at, F_l_cell_at⟩ := ok_l_cell_at (P := P) (w := w) (base := base) T
  have kp_l_cell_at := F_l_cell_at.kp
  have b_l_cell_at : Binds K fd_l_cell_at ["_law_script", "_law_k"] [] := FunD.bindsN F_l_cell_at (fun _ _ _ _ _ _ us hl => match us, hl with | [_, _], _ => rfl)
  obtain ⟨fd_l_told, G_l_told, F_l_told⟩ := ok_l_told (P := P) (w := w) (base := base) T TB
  have kp_l_told := F_l_told.kp
  have b_l_told : Binds K fd_l_told ["_law_desk", "_law_rows", "_law_lasts", "_law_hand", "_law_number_here"] [] := FunD.bindsN F_l_told (fun _ _ _ _ _ _ us hl => match us, hl with | [_, _, _, _, _], _ => rfl)
  refine ⟨fd, F.ok sc_law (by walk_at "g94len") (fun cdv A outer st H vs Q E hr h => ?_), F⟩
  · obtain ⟨a, ns, rfl, hS, hlen, hbits, hO, k⟩ := h
    refine ⟨_, PSs.nox (pss_cons (ps_if (pt_not (pt_val (pe_call G_l_begun (hr.mono (by decide)) rfl (glo__law_begun T) kp_l_begun b_l_begun .nil pass0 (pa_cons (pe_op op_fdiv (pe_call G_l_cell_at (hr.mono (by decide)) rfl (glo__law_cell_at T) kp_l_cell_at b_l_cell_at .nil pass0 (pa_cons (pv 0) (pa_cons pe_int pa_nil))) pe_int) pa_nil)))) (pss_one (ps_ret pe_bl)) pss_nil)
        (pss_cons (ps_set (i := 1) sc_law.nd rfl (Or.inl rfl) (pe_make0K (mk_Desk T) G_Desk_init (hr.mono (by decide)) rfl (glo_Desk T) b1_Desk_init v1_Desk_init (passes_call takes0 (fun _ _ _ _ h => h))))
        (pss_cons (ps_set (i := 2) sc_law.nd rfl (Or.inl rfl) (pe_makeK (mk_Desk T) G_Desk_init (hr.mono (by decide)) rfl (glo_Desk T) b0_Desk_init v0_Desk_init (passes_call takes0 (fun _ _ _ _ h => h)) (pa_cons pe_str pa_nil)))
        (pss_cons (ps_set (i := 3) sc_law.nd rfl (Or.inl rfl) (pe_call G_l_names (hr.mono (by decide)) rfl (glo__law_names T) kp_l_names b_l_names .nil pass0 (pa_cons (pe_op op_mod (pe_call G_l_cell_at (hr.mono (by decide)) rfl (glo__law_cell_at T) kp_l_cell_at b_l_cell_at .nil pass0 (pa_cons (pv 0) (pa_cons pe_int pa_nil))) (pe_powC (v := 1000000000000000000000000000000) (by rfl) (by decide +kernel))) pa_nil)))
        (pss_cons (ps_set (i := 4) sc_law.nd rfl (Or.inl rfl) (pe_lstK pa_nil))
        (pss_cons (ps_set (i := 5) sc_law.nd rfl (Or.inl rfl) pe_dnewKK)
        (pss_cons (ps_set (i := 6) sc_law.nd rfl (Or.inl rfl) (pe_lstK pa_nil))
        (pss_cons (ps_for PassesOwn.never rfl (pi_enum (by rfl) (free_enumerate T) (pa_cons (pe_slice sl_listK (pv 0) (po_some pe_int) (po_some pe_int)) pa_nil)) (pg_tup rfl (pgs_cons (pg_name (i := 7) sc_law.nd rfl (Or.inl rfl)) (pgs_cons (pg_name (i := 8) sc_law.nd rfl (Or.inl rfl)) pgs_nil))) (pss_cons (ps_set (i := 9) sc_law.nd rfl (Or.inl rfl) (pe_call G_l_number (hr.mono (by decide)) rfl (glo__law_number T) kp_l_number b_l_number .nil pass0 (pa_cons (pe_op op_fdiv (pv 8) pe_int) (pa_cons (pv 7) pa_nil))))
        (pss_cons (ps_if (pt_not (pt_val (pe_call G_l_told (hr.mono (by decide)) rfl (glo__law_told T) kp_l_told b_l_told .nil pass0 (pa_cons (pv 1) (pa_cons (pv 4) (pa_cons (pv 5) (pa_cons (pe_ix ix_list (pv 3) (pe_op op_mod (pv 8) pe_int) (fun _ _ => rfl)) (pa_cons (pv 9) pa_nil)))))))) (pss_one (ps_ret pe_bl)) pss_nil)
        (pss_one (ps_if (pt_cmpR op_eq (pe_op op_mod (pe_call G_l_cell_at (hr.mono (by decide)) rfl (glo__law_cell_at T) kp_l_cell_at b_l_cell_at .nil pass0 (pa_cons (pv 0) (pa_cons pe_int pa_nil))) pe_int) pe_int (nomark _)) (pss_cons (ps_set (i := 10) sc_law.nd rfl (Or.inl rfl) (pe_meth0 (pv 1) (cls_Desk T) (m_Desk_rows T) G_Desk_rows (hr.mono (by decide)) b_Desk_rows .nil pass0))
        (pss_cons (ps_if (pt_not (pt_val (pe_call G_l_same (hr.mono (by decide)) rfl (glo__law_same T) kp_l_same b_l_same .nil pass0 (pa_cons (pv 10) (pa_cons (pv 4) pa_nil))))) (pss_one (ps_ret pe_bl)) pss_nil)
        (pss_cons (ps_expr (pe_bm PySem.F.plainAttrs_list PySem.F.slot_list_append PySem.F.type_list_append mt_appendK (pv 10) (pa_cons (pe_op op_add_str pe_str (pe_callTy call_str_int (by rfl) (free_str T) (by decide +kernel) (pa_cons (pv 7) pa_nil))) pa_nil)))
        (pss_one (ps_expr (pe_bm PySem.F.plainAttrs_list PySem.F.slot_list_append PySem.F.type_list_append mt_appendK (pv 6) (pa_cons (pe_lstK (pa_cons (pv 10) (pa_cons (pe_callTy call_listK (by rfl) (free_list T) (by decide +kernel) (pa_cons (pv 10) pa_nil)) pa_nil))) pa_nil))))))) pss_nil)))))
        (pss_cons (ps_set (i := 10) sc_law.nd rfl (Or.inl rfl) (pe_meth0 (pv 1) (cls_Desk T) (m_Desk_rows T) G_Desk_rows (hr.mono (by decide)) b_Desk_rows .nil pass0))
        (pss_cons (ps_if (pt_not (pt_val (pe_call G_l_same (hr.mono (by decide)) rfl (glo__law_same T) kp_l_same b_l_same .nil pass0 (pa_cons (pv 10) (pa_cons (pv 4) pa_nil))))) (pss_one (ps_ret pe_bl)) pss_nil)
        (pss_cons (ps_expr (pe_bm0 PySem.F.plainAttrs_list PySem.F.slot_list_clear PySem.F.type_list_clear mt_clearK (pv 10)))
        (pss_cons (ps_for PassesOwn.never rfl (pi_list (pv 6)) (pg_lst rfl (pgs_cons (pg_name (i := 11) sc_law.nd rfl (Or.inl rfl)) (pgs_cons (pg_name (i := 12) sc_law.nd rfl (Or.inl rfl)) pgs_nil))) (pss_one (ps_if (pt_cmpR (op_neK hr.units) (pv 11) (pv 12) (nomark _)) (pss_one (ps_ret pe_bl)) pss_nil)))
        (pss_one (ps_ret (pe_and (pe_call G_l_same (hr.mono (by decide)) rfl (glo__law_same T) kp_l_same b_l_same .nil pass0 (pa_cons (pe_meth0 (pv 1) (cls_Desk T) (m_Desk_rows T) G_Desk_rows (hr.mono (by decide)) b_Desk_rows .nil pass0) (pa_cons (pv 4) pa_nil))) (pe_one (pe_cmpR (op_eqK hr.units) (pe_meth0 (pv 2) (cls_Desk T) (m_Desk_rows T) G_Desk_rows (hr.mono (by decide)) b_Desk_rows .nil pass0) (pe_lstK pa_nil) (nomark _)))))))))))))))))), ?_⟩
    clear hbits hO
    walk_at "wks"
    intro c
    walk_at "wks"
    intro H1 s1
    walk_at "wks"
    walk_at "wks"
    intro d dx H2 f2 s2 h2
    refine ⟨d, dx, _, rfl, h2, .inl ⟨rfl, fun pb ph pl H3 m3 hd3 hh3 hl3 fh fl => ⟨rfl, ?_⟩⟩⟩
    walk_at "wks"
    intro b dxb H4 f4 s4 h4
    refine ⟨b, dxb, _, rfl, h4, .inl ⟨rfl, fun pbb phb plb H5 m5 hd5 hh5 hl5 fhb flb => ⟨rfl, ?_⟩⟩⟩
    have s03 : Same H H3 := (s1.trans s2).but m3 (Fr.back f2 s1)
    have s05 : Same H H5 := (s03.trans s4).but m5 (Fr.back f4 s03)
    have s35 : Same H3 H5 := s4.but m5 f4
    have hS5 := s05.seq hS
    walk_at "wks"
    intro c2
    walk_at "wks"
    intro ls pN H6 lsl lsB s6 f6 h6
    have hS6 := s6.seq hS5
    walk_at "wks"
    rename_i pR H7 f7 s7 h7 pM H8 f8 s8 h8 pX H9 f9 s9 h9
    have hS9 := s9.seq (s8.seq (s7.seq hS6))
    walk_at "wks"
    rename_i p6 HA fA sA hA
    obtain ⟨ms, hm, hml, _⟩ := cut_ints ns (some 2) (some 65)
    rw [hm] at hA
    have s69 : Same H6 H9 := (s7.trans s8).trans s9
    have s6A := s69.trans sA
    have s5A := s6.trans s6A
    have s3A := s35.trans s5A
    have s0A : Same H HA := s05.trans s5A
    have hphA := s3A _ _ hh3
    have hplA := s3A _ _ hl3
    have hdA := s3A _ _ hd3
    have hbA := s5A _ _ hd5
    have hhbA := s5A _ _ hh5
    have hlbA := s5A _ _ hl5
    have hNA := s6A _ _ h6
    have hRA := sA _ _ (s9 _ _ (s8 _ _ h7))
    have hMA := sA _ _ (s9 _ _ h8)
    have hXA := sA _ _ h9
    have n1 : pR ≠ ph := neF2 f7 (s6 _ _ (s35 _ _ hh3))
    have n2 : pM ≠ pl := neF2 f8 (s7 _ _ (s6 _ _ (s35 _ _ hl3)))
    have nX1 : pX ≠ ph := neF2 f9 (s8 _ _ (s7 _ _ (s6 _ _ (s35 _ _ hh3))))
    have nX2 : pX ≠ pR := neF2 f9 (s8 _ _ h7)
    have nN1 : pN ≠ ph := neF2 f6 (s35 _ _ hh3)
    have nN2 : pR ≠ pN := neF2 f7 h6
    have nN3 : pX ≠ pN := neF2 f9 (s8 _ _ (s7 _ _ h6))
    have n61 : p6 ≠ ph := neF2 fA (s9 _ _ (s8 _ _ (s7 _ _ (s6 _ _ (s35 _ _ hh3)))))
    have n62 : p6 ≠ pR := neF2 fA (s9 _ _ (s8 _ _ h7))
    have n63 : p6 ≠ pX := neF2 fA h9
    have nb1 : phb ≠ ph := neF2 fhb (s4 _ _ hh3)
    have nb2 : plb ≠ pl := neF2 flb (s4 _ _ hl3)
    have nb3 : pR ≠ phb := neF2 f7 (s6 _ _ hh5)
    have nb4 : pM ≠ plb := neF2 f8 (s7 _ _ (s6 _ _ hl5))
    have nb5 : pX ≠ phb := neF2 f9 (s8 _ _ (s7 _ _ (s6 _ _ hh5)))
    have ld : ∀ {x y : Addr} {l : List V} {e : List (Key × V)}, HA x = some (.lst l) → HA y = some (.dK e) → x ≠ y := fun q r => ne_of q r (by intro z; cases z)
    have li : ∀ {x : Addr} {l : List V}, HA x = some (.lst l) → b ≠ x := fun q => ne_of hbA q (by intro z; cases z)
    have di : ∀ {x : Addr} {e : List (Key × V)}, HA x = some (.dK e) → b ≠ x := fun q => ne_of hbA q (by intro z; cases z)
    obtain ⟨M, eM⟩ : ∃ M, M = [ph, pl, pR, pM, pX] := ⟨_, rfl⟩
    have mN : pN ∉ M := by
      rw [eM]
      simp [nN1, ld hNA hplA, nN2.symm, ld hNA hMA, nN3.symm]
    have m6 : p6 ∉ M := by
      rw [eM]
      simp [n61, ld hA hplA, n62, ld hA hMA, n63]
    have mb : b ∉ M := by
      rw [eM]
      simp [li hphA, di hplA, li hRA, di hMA, li hXA]
    have mhb : phb ∉ M := by
      rw [eM]
      simp [nb1, ld hhbA hplA, nb3.symm, ld hhbA hMA, nb5.symm]
    have mlb : plb ∉ M := by
      rw [eM]
      simp [nb2, (ld hphA hlbA).symm, (ld hRA hlbA).symm, nb4.symm, (ld hXA hlbA).symm]
    have frM : ∀ x ∈ M, L2.Fr H x := fun x hx => by
      rw [eM] at hx
      simp only [List.mem_cons, List.not_mem_nil, or_false] at hx
      rcases hx with rfl | rfl | rfl | rfl | rfl
      · exact Fr.back fh (s1.trans s2)
      · exact Fr.back fl (s1.trans s2)
      · exact Fr.back f7 (s05.trans s6)
      · exact Fr.back f8 ((s05.trans s6).trans s7)
      · exact Fr.back f9 (((s05.trans s6).trans s7).trans s8)
    have S0 : Sta K HA d dx pb ph pl pR pM [] [] (fun _ => 0) 0 := ⟨⟨hdA, hphA, (by simp), ⟨_, hplA, Lasts.nil⟩, rfl⟩, hRA, (by simp), ⟨_, hMA, Lasts.nil⟩, .nil, .refl _, (by simp), fun _ => ⟨by decide, by decide⟩, n1, n2⟩
    have hsub : ∀ x ∈ [ph, pl, pR, pM], x ∈ M := fun x hx => by
      rw [eM]
      simp only [List.mem_cons, List.not_mem_nil, or_false] at hx ⊢
      rcases hx with h | h | h | h
      · exact .inl h
      · exact .inr (.inl h)
      · exact .inr (.inr (.inl h))
      · exact .inr (.inr (.inr (.inl h)))
    have hXM : pX ∈ M := by
      rw [eM]
      simp
    have nXi : pX ∉ [ph, pl, pR, pM] := by
      simp [nX1, nX2, ld hXA hplA, ld hXA hMA]
    have e3 : ls.length = 3 := lsl
    have ez : ∀ z : Int, ∃ hand : List Nat, atI (ls.map fun l => V.str (SX.S l)) (z % 3) = some (.str (SX.S hand)) ∧ lampB hand = true := fun z => by
      obtain ⟨j, hj, hj2⟩ : ∃ j : Nat, z % 3 = j ∧ j < ls.length := ⟨(z % 3).toNat, by omega, by omega⟩
      refine ⟨ls[j], ?_, lsB _ (List.getElem_mem _)⟩
      rw [hj]
      exact atI_nat (by rw [List.getElem?_map, List.getElem?_eq_getElem hj2]; rfl)
    clear n1 n2 nX1 nX2 nN1 nN2 nN3 n61 n62 n63 nb1 nb2 nb3 nb4 nb5 ld li di lsB lsl e3
    clear fh fl fhb flb f2 f4 f6 f7 f8 f9 fA
    clear hd3 hh3 hl3 hd5 hh5 hl5 h2 h4 h6 h7 h8 h9 m3 m5 s1 s2 s4 s6 s7 s8 s9 sA s69 s6A s5A s3A s35 s05 s03 hS5 hS6 hS9
    refine for_enumK (xs := ms.map V.int) (fun i σ' H' => ∃ (v1 v2 v3 v4 v5 v6 : Option V) (es R : List (Addr × Row4)) (f : Str → Int) (hs : List (Addr × Addr × Addr × List Str)), σ' = [some (.ref a), some (.ref d), some (.ref b), some (.ref pN), some (.ref pR), some (.ref pM), some (.ref pX), v1, v2, v3, v4, v5, v6] ∧
      ButM M HA H' ∧ Sta K H' d dx pb ph pl pR pM es R f i ∧ H' pX = some (.lst (hs.map fun h => V.ref h.1)) ∧ hs.length ≤ i ∧ ∀ h ∈ hs, HeldAt M H' h)
      ⟨_, _, _, _, _, _, [], [], _, [], rfl, ButM.refl, S0, hXA, Nat.le_refl _, (by simp)⟩ (fun i σ' H' _ ⟨_, _, _, _, _, _, _, _, _, _, _, q, _⟩ => .of (q _ _ m6 hA)) ?_ ?_
    · rintro i x T σ' G1 G2 hxi ⟨v1, v2, v3, v4, v5, v6, es, R, f, hs, rfl, mB, S, hX, hsl, hH⟩ fT sT hT
      rw [List.getElem?_map, Option.map_eq_some_iff] at hxi
      obtain ⟨z, hz, rfl⟩ := hxi
      have hi := (List.getElem?_eq_some_iff.mp hz).1
      have mB2 := mB.trans (.ofSame sT)
      have hN2 := mB2 _ _ mN hNA
      obtain ⟨hand, hhand, hb⟩ := ez z
      walk_at "wks"
      intro n n0 n1
      walk_at "wks"
      refine ⟨d, dx, pb, ph, pl, pR, pM, es, R, f, i, hand, n, rfl, S.same sT, by omega, hb, n0, fun es' R' f' G3 m3 S3 => ?_⟩
      have mB3 := mB2.trans (m3.mono hsub)
      have hX3 := m3 _ _ nXi (sT _ _ hX)
      have hH3 : ∀ h ∈ hs, HeldAt M G3 h := fun h hh => ((hH h hh).on (ButM.ofSame (M := M) sT) fun _ q => q).on m3 hsub
      have hS3 := (mB3.same s0A frM).seq hS
      walk_at "wks"
      intro c4
      walk_at "wks"
      walk_at "ri" <;> intro c5
      · have hd3 := S3.D.hd
        unfold DkO at hd3
        walk_at "wks"
        refine ⟨d, dx, pb, ph, pl, es', f', i + 1, rfl, S3.D, by omega, fun out q G4 hp ho s4 f4 h4 => ?_⟩
        have e4 := S3.texts hp ho
        have h4 : G4 q = some (.lst ((R'.map fun b => b.2.r).map V.str)) := by
          rw [h4, ← e4, List.map_map]
          rfl
        have S4 := S3.same s4
        have rl := S3.len
        have tl : (R'.map fun b => b.2.r).length = i + 1 := by rw [List.length_map, rl]
        walk_at "wks"
        refine ⟨q, pR, R'.map (fun b => b.2.r), R', rfl, h4, S4.hr, S4.hR, rfl, fun G5 s5 => ?_⟩
        have h5 := s5 _ _ h4
        have gi : ((i : Nat) : Int).natAbs.log2 < 1920 := lg (by omega)
        have li := TL.numL_len (n := i) (k := 4) (by decide) (by show i < 10000; omega)
        have ex : Str.ofString "x" = SX.S [120] := by decide +kernel
        have hX5 := s5 _ _ (s4 _ _ hX3)
        walk_at "wks"
        rw [ex, str_num]
        refine ⟨by rw [len_S, len_S]; exact small_size (by show 1 + _ ≤ _; omega), ?_⟩
        rw [SX.S_cat]
        walk_at "wks"
        rename_i G6 m6 h6 p2 G7 f7 s7 h7 p3 G8 f8 s8 h8 G9 m9 h9
        have s36 : Same G3 G6 := (s4.trans s5).but m6 f4
        have s38 : Same G3 G8 := (s36.trans s7).trans s8
        have hX8 := s38 _ _ hX3
        have S9 := (S3.same s38).butL m9 hX8 (fun e => nXi (by rw [e]; simp)) (fun e => nXi (by rw [e]; simp))
        have nq : q ∉ M := S3.live hX3 eM f4
        have np2 : p2 ∉ M := S3.live hX3 eM (Fr.back f7 s36)
        have np3 : p3 ∉ M := S3.live hX3 eM (Fr.back f8 (s36.trans s7))
        have nX : ∀ {x : Addr}, x ∉ M → x ≠ pX := fun h e => h (e ▸ hXM)
        have mB9 : ButM M HA G9 := (mB3.trans (.ofSame s38)).trans (.ofBut m9 hXM)
        refine ⟨_, _, _, _, _, _, es', R', f', hs ++ [(p3, q, p2, (R'.map fun b => b.2.r) ++ [SX.S ([120] ++ TL.numL i)])], rfl, mB9, S9, ?_, ?_, ?_⟩
        · rw [h9, List.map_append]
          rfl
        · rw [List.length_append]
          exact Nat.succ_le_succ hsl
        · intro h hh
          rcases List.mem_append.mp hh with hh | hh
          · exact ((hH3 h hh).on (ButM.ofSame (M := M) s38) fun _ q => q).on (ButM.ofBut m9 hXM) fun _ q => q
          · rw [List.mem_singleton.mp hh]
            refine ⟨⟨np3, m9 _ _ (nX np3) h8⟩, ⟨nq, ?_⟩, ⟨np2, ?_⟩⟩
            · rw [List.map_append]
              exact m9 _ _ (nX nq) (s8 _ _ (s7 _ _ h6))
            · rw [List.map_append]
              exact m9 _ _ (nX np2) (s8 _ _ h7)
      · walk_at "wks"
        exact ⟨_, _, _, _, _, _, es', R', f', hs, rfl, mB3, S3, hX3, by omega, hH3⟩
    rintro σ' G1 ⟨v1, v2, v3, v4, v5, v6, es, R, f, hs, rfl, mB, S, hX, hsl, hH⟩
    have hd1 := S.D.hd
    unfold DkO at hd1
    rw [List.length_map] at S hsl
    walk_at "wks"
    refine ⟨d, dx, pb, ph, pl, es, f, _, rfl, S.D, by omega, fun out q G2 hp ho s2 f2 h2 => ?_⟩
    have e2 := S.texts hp ho
    have h2 : G2 q = some (.lst ((R.map fun b => b.2.r).map V.str)) := by
      rw [h2, ← e2, List.map_map]
      rfl
    have S2 := S.same s2
    walk_at "wks"
    refine ⟨q, pR, R.map (fun b => b.2.r), R, rfl, h2, S2.hr, S2.hR, rfl, fun G3 s3 => ?_⟩
    have h3 := s3 _ _ h2
    walk_at "wks"
    refine ⟨q, _, rfl, rfl, h3, fun G4 m4 h4 => ?_⟩
    have s24 : Same G1 G4 := (s2.trans s3).but m4 f2
    have hX4 := s24 _ _ hX
    have hH4 : ∀ h ∈ hs, HeldAt M G4 h := fun h hh => (hH h hh).on (ButM.ofSame (M := M) s24) fun _ q => q
    walk_at "wks"
    refine ⟨⟨_, .of hX4⟩, for_list (K := K) (a := pX) (xs := hs.map fun h => V.ref h.1) (fun i σ' H' => ∃ (v7 v8 : Option V), σ' = [some (.ref a), some (.ref d), some (.ref b), some (.ref pN), some (.ref pR), some (.ref pM), some (.ref pX), v1, v2, v3, some (.ref q), v7, v8] ∧ H' = G4) ⟨_, _, rfl, rfl⟩ (fun i σ' H' _ ⟨_, _, _, e⟩ => by rw [e]; exact .of hX4) ?_ ?_⟩
    · rintro i x σ' H' hx ⟨v7, v8, rfl, eH⟩
      rw [eH]
      clear eH H'
      rw [List.getElem?_map, Option.map_eq_some_iff] at hx
      obtain ⟨h, hh, rfl⟩ := hx
      obtain ⟨⟨_, g1⟩, ⟨_, g2⟩, ⟨_, g3⟩⟩ := hH4 h (List.mem_of_getElem? hh)
      refine ⟨h.1, _, rfl, .of g1, rfl, ?_⟩
      walk_at "wks"
      refine ⟨_, _, _, _, rfl, rfl, .of g2, .of g3, paired_texts _, ?_⟩
      walk_at "wks"
      rfl
    rintro σ' H' ⟨v7, v8, rfl, eH⟩
    rw [eH]
    clear eH H'
    have S4 := S.same s24
    have hd4 := S4.D.hd
    unfold DkO at hd4
    walk_at "wks"
    refine ⟨d, dx, pb, ph, pl, es, f, _, rfl, S4.D, by omega, fun out2 q2 G5 hp2 ho2 s5 f5 h5 => ?_⟩
    have e5 := S4.texts hp2 ho2
    have h5 : G5 q2 = some (.lst ((R.map fun b => b.2.r).map V.str)) := by
      rw [h5, ← e5, List.map_map]
      rfl
    have S5 := S4.same s5
    walk_at "wks"
    refine ⟨q2, pR, R.map (fun b => b.2.r), R, rfl, h5, S5.hr, S5.hR, rfl, fun G6 s6 => ?_⟩
    have s16 := (s24.trans s5).trans s6
    have hb6 := s16 _ _ (mB _ _ mb hbA)
    have hhb6 := s16 _ _ (mB _ _ mhb hhbA)
    have hlb6 := s16 _ _ (mB _ _ mlb hlbA)
    have D6 : Dk K G6 b dxb pbb phb plb [] (fun _ => 0) 0 := ⟨hb6, hhb6, (by simp), ⟨_, hlb6, Lasts.nil⟩, rfl⟩
    unfold DkO at hb6
    walk_at "wks"
    refine ⟨b, dxb, pbb, phb, plb, [], _, 0, rfl, D6, by decide, fun out3 q3 G7 hp3 ho3 s7 f7 h7 => ?_⟩
    obtain rfl := hp3.eq_nil
    have h7 : G7 q3 = some (.lst []) := h7
    walk_at "wks"
    rename_i p8 G8 f8 s8 h8
    refine ⟨q3, p8, [], [], rfl, rfl, .of (s8 _ _ h7), .of h8, .nil, ?_⟩
    exact k _
theorem law_facts {fa : Addr} (T : Txt K mg) (TB : L2.FormsD K w (He.ga K "FORMS") formsKeys) (hfa : mg "law" = some (.ref fa)) :
    ∃ fd : FuncData, (∀ (s : Shared) (v : Value), BindsTo s fd ⟨[v], []⟩ [("_law_script", v)]) ∧ ∀ base : Heap, K.In base → base.Ns mainGlobals mg → FnOk P w K mg base CX0 12 fa fd ["_law_script"] (spLaw K) := by
  have e := hfa.symm.trans (glo_law T)
  cases e
  obtain ⟨fd, _, F⟩ := ok_law (P := P) (w := w) (base := default) T TB
  refine ⟨fd, fun s v => FunD.bindsA (ps := ["_law_script"]) F (fun _ _ _ _ _ _ us hl => match us, hl with | [_], _ => rfl) s [v] rfl, fun base _ _ => ?_⟩
  obtain ⟨fd', G, F'⟩ := ok_law (P := P) (w := w) (base := base) T TB
  have q : fd' = fd := F'.fd_eq F
  rw [← q]
  exact G


end

end G94
open PySem PySem.W PySem.Calls PyProof.Rows
theorem PySem.Challenge.cw_lampcues_k92_rows_in_order_holds : PySem.Challenge.rw_lampcues_k92_rows_in_order.Holds := by
  w_on; o_law
  refine HandSHeadRun.head_any (r := OpenLaw.row PySem.Challenge.rw_lampcues_k92_rows_in_order) (q := view (OpenLaw.row PySem.Challenge.rw_lampcues_k92_rows_in_order).prog [63]) (H := G94.Hd.hk) (ob := G94.Hd.ob) (M := 12000) (loose := G94.Hd.loose) (d := HandSHeadRun.topDef (OpenLaw.row PySem.Challenge.rw_lampcues_k92_rows_in_order).prog 63) (kwd := []) G94.Hd.ob_eq
    (by kernel_rfl) (fun s => by kernel_rfl) G94.Hd.run (by kernel_rfl) (by kernel_rfl) (by kernel_rfl) (by rfl) (by first | assumption | decide +kernel) (by decide +kernel) ⟨rfl, rfl, rfl, rfl, rfl, by decide +kernel⟩ ?hw ?hc
  case hw => w_witness2
  case hc =>
    refine L2.walk_ofEB (l := PySem.Challenge.rw_lampcues_k92_rows_in_order) (n := 63) (k := 12) (x := "_law_script") (CX := L2.CX0) rfl (by decide) (by kernel_rfl) ⟨rfl, by decide, by decide⟩ ?F (fun _ _ _ _ z => z)
    intro w mg fa h Y G hmg0
    obtain ⟨K, KX, c, cx⟩ := Y
    have hmg : mg ("law" : PySem.Str) = some (.ref fa) := by
      have e : (HandSHeadRun.topDef (OpenLaw.row PySem.Challenge.rw_lampcues_k92_rows_in_order).prog 63).name = ("law" : PySem.Str) := by kernel_rfl
      rw [← e]
      exact hmg0
    obtain ⟨fd, hb, hF⟩ := G94.law_facts (P := (PySem.Challenge.rw_lampcues_k92_rows_in_order).prog) (w := w) ⟨c.d, ⟨h, KX, G⟩, cx⟩ (L2.forms_of c 0) hmg
    exact ⟨K, fd, G94.spLaw K, KX, hb, fun H a ns hl hb hH hS => ⟨a, ns, rfl, hS, hl, hb, hH, fun _ => rfl⟩, hF⟩
